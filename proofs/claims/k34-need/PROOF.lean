import PyProof.Rows.All
import Wide.All
import OpenK.AllK
import Wide.FinOn
import PySem.Challenge.RW_bothfaces_k34_need
import KE.KStateDown
import Lean
import HandS.ForMost
import HandS.ForExc
import HandS.Defaults
import HandS.HeadEnd
import HandS.HeadHook1
import HandS.HeadHook2
import HandS.EndBits
import HandS.Wide
import HandS.TryOnly
import KE.KDictKeyed
import KE.SortData
import KE.SortKeyHeap
import KE.KDictWalk
import HandS.Flow
import HandS.TupAny
import HandS.Deep
import KE.KDictDisplayH
import HandS.SortKw
import HandS.IsInst
import KE.DataMinMax
import KE.KDictCopyH
import KE.KDictSum
import KE.DataMinKey
import HandS.Zip
import HandS.WordsExc
import HandS.Head0
import HandS.Head1
import HandS.Head2

section
set_option Elab.async false
set_option linter.all false
set_option maxRecDepth 100000
set_option autoImplicit false
/-! S1: pure values, the abstract heap, the relation to the hand layer's values and heap. -/
namespace Z
open PySem PySem.Spec PyProof.Rows L2

/-- a value: tuples are values, lists, dicts, instances stand in the heap -/
inductive PV where
  | non | bl (b : Bool) | int (i : Int) | str (x : Str) | tup (xs : List PV) | ref (l : Nat) | exc (c : Nat) | ro (xs : List PV)

mutual
def PV.beq : PV → PV → Bool
  | .non, .non => true
  | .bl a, .bl b => a == b
  | .int a, .int b => decide (a = b)
  | .str a, .str b => decide (a = b)
  | .tup a, .tup b => PV.beqs a b
  | .ref a, .ref b => decide (a = b)
  | .exc a, .exc b => decide (a = b)
  | .ro a, .ro b => PV.beqs a b
  | _, _ => false
def PV.beqs : List PV → List PV → Bool
  | [], [] => true
  | a :: as, b :: bs => PV.beq a b && PV.beqs as bs
  | _, _ => false
end
mutual
theorem PV.beq_refl : ∀ a : PV, PV.beq a a = true
  | .non => rfl
  | .bl a => by simp [PV.beq]
  | .int a => by simp [PV.beq]
  | .str a => by simp [PV.beq]
  | .tup a => by rw [PV.beq]; exact PV.beqs_refl a
  | .ref a => by simp [PV.beq]
  | .exc a => by simp [PV.beq]
  | .ro a => by rw [PV.beq]; exact PV.beqs_refl a
theorem PV.beqs_refl : ∀ a : List PV, PV.beqs a a = true
  | [] => rfl
  | a :: as => by rw [PV.beqs, PV.beq_refl a, PV.beqs_refl as]; rfl
end
mutual
theorem PV.eq_of_beq : ∀ a b : PV, PV.beq a b = true → a = b
  | .non, b, h => by cases b <;> simp_all [PV.beq]
  | .bl a, b, h => by cases b <;> simp_all [PV.beq]
  | .int a, b, h => by cases b <;> simp_all [PV.beq]
  | .str a, b, h => by cases b <;> simp_all [PV.beq]
  | .tup a, b, h => by
    cases b with
    | tup b => rw [PV.beq] at h; rw [PV.eq_of_beqs a b h]
    | _ => simp [PV.beq] at h
  | .ref a, b, h => by cases b <;> simp_all [PV.beq]
  | .exc a, b, h => by cases b <;> simp_all [PV.beq]
  | .ro a, b, h => by
    cases b with
    | ro b => rw [PV.beq] at h; rw [PV.eq_of_beqs a b h]
    | _ => simp [PV.beq] at h
theorem PV.eq_of_beqs : ∀ a b : List PV, PV.beqs a b = true → a = b
  | [], b, h => by cases b <;> simp_all [PV.beqs]
  | a :: as, b, h => by
    cases b with
    | nil => simp [PV.beqs] at h
    | cons b bs =>
      rw [PV.beqs, Bool.and_eq_true] at h
      rw [PV.eq_of_beq a b h.1, PV.eq_of_beqs as bs h.2]
end
theorem PV.beq_iff {a b : PV} : PV.beq a b = true ↔ a = b := ⟨PV.eq_of_beq a b, fun e => e ▸ PV.beq_refl a⟩
instance : DecidableEq PV := fun a b => decidable_of_iff (PV.beq a b = true) PV.beq_iff

/-- what stands in the heap: a list, a list that is only read (the script), a dict with its locks, a set (its members, each once), an instance -/
inductive PO where
  | lst (xs : List PV)
  | rol (xs : List PV)
  | dct (kvs : List (PV × PV)) (lk : Nat)
  | set (xs : List PV)
  | ins (c : Nat) (fs : List (Str × PV))
abbrev PH := List PO

/-! ### keys -/
mutual
/-- a value as a key; bools, references are none -/
def nkey : PV → Option NestedKey
  | .int i => some (.num i)
  | .str x => some (.text x)
  | .tup xs => (nkeys xs).map .tup
  | _ => none
def nkeys : List PV → Option (List NestedKey)
  | [] => some []
  | x :: xs => match nkey x, nkeys xs with
    | some k, some ks => some (k :: ks)
    | _, _ => none
end
mutual
theorem nkey_inj : ∀ {a b : PV} {k : NestedKey}, nkey a = some k → nkey b = some k → a = b
  | .int i, b, k, h1, h2 => by
    rw [nkey] at h1; cases h1
    cases b with
    | int j => rw [nkey] at h2; injection h2 with h2; injection h2 with h2; rw [h2]
    | str j => rw [nkey] at h2; injection h2 with h2; injection h2
    | tup j => rw [nkey] at h2; cases hq : nkeys j <;> rw [hq] at h2 <;> simp at h2
    | _ => simp [nkey] at h2
  | .str i, b, k, h1, h2 => by
    rw [nkey] at h1; cases h1
    cases b with
    | int j => rw [nkey] at h2; injection h2 with h2; injection h2
    | str j => rw [nkey] at h2; injection h2 with h2; injection h2 with h2; rw [h2]
    | tup j => rw [nkey] at h2; cases hq : nkeys j <;> rw [hq] at h2 <;> simp at h2
    | _ => simp [nkey] at h2
  | .tup xs, b, k, h1, h2 => by
    rw [nkey] at h1
    cases hx : nkeys xs with
    | none => rw [hx] at h1; cases h1
    | some ks =>
      rw [hx] at h1
      cases h1
      cases b with
      | int j => rw [nkey] at h2; injection h2 with h2; injection h2
      | str j => rw [nkey] at h2; injection h2 with h2; injection h2
      | tup j =>
        rw [nkey] at h2
        cases hq : nkeys j with
        | none => rw [hq] at h2; simp at h2
        | some ks' =>
          rw [hq] at h2
          simp at h2
          subst h2
          rw [nkeys_inj hx hq]
      | _ => simp [nkey] at h2
  | .non, b, k, h1, h2 => by simp [nkey] at h1
  | .bl _, b, k, h1, h2 => by simp [nkey] at h1
  | .ref _, b, k, h1, h2 => by simp [nkey] at h1
  | .exc _, b, k, h1, h2 => by simp [nkey] at h1
  | .ro _, b, k, h1, h2 => by simp [nkey] at h1
theorem nkeys_inj : ∀ {a b : List PV} {k : List NestedKey}, nkeys a = some k → nkeys b = some k → a = b
  | [], b, k, h1, h2 => by
    rw [nkeys] at h1; cases h1
    cases b with
    | nil => rfl
    | cons y ys => rw [nkeys] at h2; split at h2 <;> simp at h2
  | x :: xs, b, k, h1, h2 => by
    rw [nkeys] at h1
    cases hx : nkey x with
    | none => rw [hx] at h1; simp at h1
    | some kx =>
      cases hxs : nkeys xs with
      | none => rw [hx, hxs] at h1; simp at h1
      | some kxs =>
        rw [hx, hxs] at h1
        simp at h1
        subst h1
        cases b with
        | nil => rw [nkeys] at h2; simp at h2
        | cons y ys =>
          rw [nkeys] at h2
          cases hy : nkey y with
          | none => rw [hy] at h2; simp at h2
          | some ky =>
            cases hys : nkeys ys with
            | none => rw [hy, hys] at h2; simp at h2
            | some kys =>
              rw [hy, hys] at h2
              simp at h2
              obtain ⟨e1, e2⟩ := h2
              subst e1; subst e2
              rw [nkey_inj hx hy, nkeys_inj hxs hys]
end

/-! ### values and heap related -/
/-- a list that is only read, and is none of ours -/
def RoL (K : PySem.W.Frag) (H : Hp) (ms : List Addr) (a : Addr) (vs : List V) : Prop := ((∃ o, H a = some (.frz o (.lst vs))) ∧ a ∉ ms) ∨ ∀ H', SqL K H' a vs
theorem RoL.seq {K : PySem.W.Frag} {H : Hp} {ms : List Addr} {a : Addr} {vs : List V} (r : RoL K H ms a vs) : SqL K H a vs := r.elim (fun x => .inl (.inr x.1)) fun x => x H
mutual
inductive Rp (K : PySem.W.Frag) (px : List (Addr × Nat)) (H : Hp) (ms : List Addr) : PV → V → Prop
  | non : Rp K px H ms .non .non
  | bl {b} : Rp K px H ms (.bl b) (.bl b)
  | int {i} : Rp K px H ms (.int i) (.int i)
  | str {x} : Rp K px H ms (.str x) (.str x)
  | tup {a vs xs} : SqT K H a vs → Rps K px H ms xs vs → Rp K px H ms (.tup xs) (.ref a)
  | ref {l a} : ms[l]? = some a → Rp K px H ms (.ref l) (.ref a)
  | exc {c a} : (a, c) ∈ px → Rp K px H ms (.exc c) (.ref a)
  | ro {a vs xs} : RoL K H ms a vs → Rps K px H ms xs vs → Rp K px H ms (.ro xs) (.ref a)
inductive Rps (K : PySem.W.Frag) (px : List (Addr × Nat)) (H : Hp) (ms : List Addr) : List PV → List V → Prop
  | nil : Rps K px H ms [] []
  | cons {p v ps vs} : Rp K px H ms p v → Rps K px H ms ps vs → Rps K px H ms (p :: ps) (v :: vs)
end

section
variable {K : PySem.W.Frag} {px : List (Addr × Nat)} {H H' : Hp} {ms ms' : List Addr}
theorem Rps.length : ∀ {ps : List PV} {vs : List V}, Rps K px H ms ps vs → ps.length = vs.length
  | _, _, .nil => rfl
  | _, _, .cons _ t => by rw [List.length_cons, List.length_cons, Rps.length t]
theorem Rps.get : ∀ {ps : List PV} {vs : List V} {i : Nat} {p : PV}, Rps K px H ms ps vs → ps[i]? = some p → ∃ v, vs[i]? = some v ∧ Rp K px H ms p v
  | _, _, _, _, .nil, e => by simp at e
  | _, _, 0, _, .cons r _, e => by simp at e; subst e; exact ⟨_, rfl, r⟩
  | _, _, i + 1, p, .cons _ t, e => by
    obtain ⟨v, h1, h2⟩ := Rps.get (i := i) (p := p) t (by simpa using e)
    exact ⟨v, by simpa using h1, h2⟩
theorem Rps.getR : ∀ {ps : List PV} {vs : List V} {i : Nat} {v : V}, Rps K px H ms ps vs → vs[i]? = some v → ∃ p, ps[i]? = some p ∧ Rp K px H ms p v
  | _, _, _, _, .nil, e => by simp at e
  | _, _, 0, _, .cons r _, e => by simp at e; subst e; exact ⟨_, rfl, r⟩
  | _, _, i + 1, p, .cons _ t, e => by
    obtain ⟨v, h1, h2⟩ := Rps.getR (i := i) (v := p) t (by simpa using e)
    exact ⟨v, by simpa using h1, h2⟩
theorem Rps.append : ∀ {ps qs : List PV} {vs us : List V}, Rps K px H ms ps vs → Rps K px H ms qs us → Rps K px H ms (ps ++ qs) (vs ++ us)
  | _, _, _, _, .nil, s => s
  | _, _, _, _, .cons r t, s => .cons r (Rps.append t s)
theorem Rps.snoc {ps : List PV} {vs : List V} {p : PV} {v : V} (r : Rps K px H ms ps vs) (s : Rp K px H ms p v) : Rps K px H ms (ps ++ [p]) (vs ++ [v]) := r.append (.cons s .nil)
theorem Rps.take : ∀ {ps : List PV} {vs : List V} (n : Nat), Rps K px H ms ps vs → Rps K px H ms (ps.take n) (vs.take n)
  | _, _, 0, _ => .nil
  | _, _, _ + 1, .nil => .nil
  | _, _, n + 1, .cons r t => .cons r (Rps.take n t)
theorem Rps.drop : ∀ {ps : List PV} {vs : List V} (n : Nat), Rps K px H ms ps vs → Rps K px H ms (ps.drop n) (vs.drop n)
  | _, _, 0, r => r
  | _, _, _ + 1, .nil => .nil
  | _, _, n + 1, .cons _ t => Rps.drop n t
theorem Rps.set : ∀ {ps : List PV} {vs : List V} (i : Nat) {p : PV} {v : V}, Rps K px H ms ps vs → Rp K px H ms p v → Rps K px H ms (ps.set i p) (vs.set i v)
  | _, _, _, _, _, .nil, _ => .nil
  | _, _, 0, _, _, .cons _ t, s => .cons s t
  | _, _, i + 1, _, _, .cons r t, s => .cons r (Rps.set i t s)
theorem Rps.reverse : ∀ {ps : List PV} {vs : List V}, Rps K px H ms ps vs → Rps K px H ms ps.reverse vs.reverse
  | _, _, .nil => .nil
  | _, _, .cons r t => by rw [List.reverse_cons, List.reverse_cons]; exact (Rps.reverse t).snoc r

/-- all that is tracked beside the objects ms stands -/
def Keep (ms : List Addr) (H : Hp) (ms' : List Addr) (H' : Hp) : Prop := ms <+: ms' ∧ ∀ a o, H a = some o → a ∉ ms → H' a = some o ∧ a ∉ ms'
theorem Keep.refl : Keep ms H ms H := ⟨List.prefix_refl _, fun _ _ h n => ⟨h, n⟩⟩
theorem Keep.trans {ms1 : List Addr} {H1 : Hp} (a : Keep ms H ms1 H1) (b : Keep ms1 H1 ms' H') : Keep ms H ms' H' :=
  ⟨a.1.trans b.1, fun x o h n => let ⟨h1, n1⟩ := a.2 x o h n; b.2 x o h1 n1⟩
theorem Keep.at (k : Keep ms H ms' H') {l : Nat} {a : Addr} (h : ms[l]? = some a) : ms'[l]? = some a := by
  obtain ⟨t, rfl⟩ := k.1
  rw [List.getElem?_append_left (List.getElem?_eq_some_iff.mp h).1]
  exact h

/-- a slot -/
def Ro (K : PySem.W.Frag) (px : List (Addr × Nat)) (H : Hp) (ms : List Addr) : Option PV → Option V → Prop
  | none, none => True
  | some p, some v => Rp K px H ms p v
  | _, _ => False
abbrev Sto := List (Option PV)
abbrev SlR (K : PySem.W.Frag) (px : List (Addr × Nat)) (H : Hp) (ms : List Addr) : Sto → L2.St → Prop := Paired (Ro K px H ms)

/-! ### the dict's entries -/
section
variable (P : Program) (w : World)
/-- one entry -/
def EnR (K : PySem.W.Frag) (px : List (Addr × Nat)) (H : Hp) (ms : List Addr) (kv : PV × PV) (e : DictEntry) : Prop :=
  (∃ k, nkey kv.1 = some k ∧ k.depth ≤ 8 ∧ e.hash = k.hash w) ∧ (∃ v, Rp K px H ms kv.1 v ∧ RelV v e.key) ∧ ∃ v, Rp K px H ms kv.2 v ∧ RelV v e.val
end
/-- all keys tuples, or none -/
def tupK : PV → Bool
  | .tup _ => true
  | _ => false
def uniK (kvs : List (PV × PV)) : Prop := (∀ p ∈ kvs, tupK p.1 = true) ∨ (∀ p ∈ kvs, tupK p.1 = false)
/-- the object at an address -/
def AtO (a : Addr) (o : Obj) : HO := .ext fun h => h.get? a = some o

/-- one object -/
def ObR (w : World) (cl : Nat → Option Addr) (K : PySem.W.Frag) (px : List (Addr × Nat)) (lk : Addr → Option Obj) (ms : List Addr) (H : Hp) (a : Addr) : PO → Prop
  | .lst xs => xs.length ≤ sizeLine ∧ ∃ vs, H a = some (.lst vs) ∧ Rps K px H ms xs vs
  | .rol xs => xs.length ≤ sizeLine ∧ ∃ o vs, H a = some (.frz o (.lst vs)) ∧ Rps K px H ms xs vs
  | .dct kvs n => (kvs.length ≤ sizeLine ∧ (a == sysModules) = false ∧ (kvs.map (·.1)).Nodup ∧ uniK kvs) ∧
      ∃ o es ep, H a = some (AtO a o) ∧ o.ExactDict ∧ o.data = .dict es ep ∧ Paired (EnR w K px H ms) kvs es.toList ∧ (∀ o', lk a = some o' → o' = o ∧ 0 < n)
  | .set xs => False
  | .ins c fs => ∃ C dx gs, cl c = some C ∧ H a = some (.ins C dx gs) ∧ H dx = some (.own a) ∧ fs.length ≤ 1000 ∧ Paired (fun (f : Str × PV) (g : Str × V) => f.1 = g.1 ∧ Rp K px H ms f.2 g.2) fs gs

/-- the heaps related -/
structure HR (w : World) (cl : Nat → Option Addr) (K : PySem.W.Frag) (px : List (Addr × Nat)) (lk : Addr → Option Obj) (ms : List Addr) (h : PH) (H : Hp) : Prop where
  len : ms.length = h.length
  nd : ms.Nodup
  obj : ∀ (l : Nat) (o : PO), h[l]? = some o → ∃ a, ms[l]? = some a ∧ ObR w cl K px lk ms H a o
  lks : ∀ (a : Addr) (o : Obj), lk a = some o → ∃ (l : Nat) (kvs : List (PV × PV)) (n : Nat), ms[l]? = some a ∧ h[l]? = some (PO.dct kvs n) ∧ 0 < n
end

section
variable {w : World} {cl : Nat → Option Addr} {K : PySem.W.Frag} {px : List (Addr × Nat)} {lk : Addr → Option Obj} {ms ms' : List Addr} {h h' : PH} {H H' : Hp}
theorem HR.at_of {l : Nat} {a : Addr} (r : HR w cl K px lk ms h H) (e : ms[l]? = some a) : ∃ o, h[l]? = some o ∧ ObR w cl K px lk ms H a o := by
  have hl : l < ms.length := (List.getElem?_eq_some_iff.mp e).1
  have hl' : l < h.length := by rw [← r.len]; exact hl
  obtain ⟨a', e', o⟩ := r.obj l h[l] (List.getElem?_eq_getElem hl')
  rw [e] at e'
  cases e'
  exact ⟨_, List.getElem?_eq_getElem hl', o⟩
theorem ObR.thr {a : Addr} {o : PO} (x : ObR w cl K px lk ms H a o) : ∃ u, H a = some u := by
  cases o with
  | lst xs => obtain ⟨_, vs, e, _⟩ := x; exact ⟨_, e⟩
  | rol xs => obtain ⟨_, o, vs, e, _⟩ := x; exact ⟨_, e⟩
  | dct kvs n => obtain ⟨_, o, es, ep, e, _⟩ := x; exact ⟨_, e⟩
  | set xs => exact x.elim
  | ins c fs => obtain ⟨C, dx, gs, _, e, _⟩ := x; exact ⟨_, e⟩
theorem ObR.notup {a : Addr} {o : PO} (x : ObR w cl K px lk ms H a o) : (∀ vs, H a ≠ some (.tup vs)) ∧ ∀ o vs, H a ≠ some (.frz o (.tup vs)) := by
  cases o with
  | lst xs => obtain ⟨_, vs, e, _⟩ := x; rw [e]; exact ⟨fun _ z => (nomatch z), fun _ _ z => (nomatch z)⟩
  | rol xs => obtain ⟨_, o, vs, e, _⟩ := x; rw [e]; exact ⟨fun _ z => (nomatch z), fun _ _ z => by injection z with z; injection z with _ z; cases z⟩
  | dct kvs n => obtain ⟨_, o, es, ep, e, _⟩ := x; rw [e]; exact ⟨fun _ z => (nomatch z), fun _ _ z => (nomatch z)⟩
  | set xs => exact x.elim
  | ins c fs => obtain ⟨C, dx, gs, _, e, _⟩ := x; rw [e]; exact ⟨fun _ z => (nomatch z), fun _ _ z => (nomatch z)⟩
theorem HR.mem {a : Addr} (r : HR w cl K px lk ms h H) (m : a ∈ ms) : ∃ (l : Nat) (o : PO), ms[l]? = some a ∧ h[l]? = some o ∧ ObR w cl K px lk ms H a o := by
  obtain ⟨l, hl⟩ := List.mem_iff_getElem?.mp m
  obtain ⟨o, e, x⟩ := r.at_of hl
  exact ⟨l, o, hl, e, x⟩
theorem HR.tupOut {a : Addr} {vs : List V} (r : HR w cl K px lk ms h H) (e : Rd H a (.tup vs)) : a ∉ ms := fun m => by
  obtain ⟨l, o, _, _, x⟩ := r.mem m
  rcases e with e | ⟨o, e⟩
  · exact x.notup.1 vs e
  · exact x.notup.2 o vs e
theorem HR.seqT {a : Addr} {vs : List V} (r : HR w cl K px lk ms h H) (k : Keep ms H ms' H') (s : SqT K H a vs) : SqT K H' a vs := by
  rcases s with s | s
  · have n := r.tupOut s
    rcases s with s | ⟨o, s⟩
    · exact .inl (.inl (k.2 a _ s n).1)
    · exact .inl (.inr ⟨o, (k.2 a _ s n).1⟩)
  · exact .inr s
theorem RoL.ext {a : Addr} {vs : List V} (s : RoL K H ms a vs) (k : Keep ms H ms' H') : RoL K H' ms' a vs := by
  rcases s with ⟨⟨o, s⟩, n⟩ | s
  · exact .inl ⟨⟨o, (k.2 a _ s n).1⟩, (k.2 a _ s n).2⟩
  · exact .inr s
mutual
theorem Rp.ext (r : HR w cl K px lk ms h H) (k : Keep ms H ms' H') : ∀ {p : PV} {v : V}, Rp K px H ms p v → Rp K px H' ms' p v
  | _, _, .non => .non
  | _, _, .bl => .bl
  | _, _, .int => .int
  | _, _, .str => .str
  | _, _, .tup s t => .tup (r.seqT k s) (Rps.ext r k t)
  | _, _, .ref e => .ref (k.at e)
  | _, _, .exc e => .exc e
  | _, _, .ro s t => .ro (s.ext k) (Rps.ext r k t)
theorem Rps.ext (r : HR w cl K px lk ms h H) (k : Keep ms H ms' H') : ∀ {ps : List PV} {vs : List V}, Rps K px H ms ps vs → Rps K px H' ms' ps vs
  | _, _, .nil => .nil
  | _, _, .cons a b => .cons (Rp.ext r k a) (Rps.ext r k b)
end
theorem Ro.ext (r : HR w cl K px lk ms h H) (k : Keep ms H ms' H') {p : Option PV} {v : Option V} (x : Ro K px H ms p v) : Ro K px H' ms' p v := by
  cases p with
  | none => cases v with
    | none => trivial
    | some _ => exact x.elim
  | some p => cases v with
    | none => exact x.elim
    | some v => exact Rp.ext r k (show Rp K px H ms p v from x)
theorem SlR.ext (r : HR w cl K px lk ms h H) (k : Keep ms H ms' H') {σp : Sto} {σ : L2.St} (x : SlR K px H ms σp σ) : SlR K px H' ms' σp σ := Paired.mapP x fun _ _ y => Ro.ext r k y
theorem Paired.get {α β : Type} {F : α → β → Prop} : ∀ {l₁ : List α} {l₂ : List β} {i : Nat} {x : α}, Paired F l₁ l₂ → l₁[i]? = some x → ∃ y, l₂[i]? = some y ∧ F x y
  | _, _, _, _, .nil, e => by simp at e
  | _, _, 0, _, .cons r _, e => by simp at e; subst e; exact ⟨_, rfl, r⟩
  | _, _, i + 1, p, .cons _ t, e => by
    obtain ⟨v, h1, h2⟩ := Paired.get (i := i) (x := p) t (by simpa using e)
    exact ⟨v, by simpa using h1, h2⟩
theorem Paired.set {α β : Type} {F : α → β → Prop} {x : α} {y : β} (r : F x y) : ∀ {l₁ : List α} {l₂ : List β} (i : Nat), Paired F l₁ l₂ → Paired F (l₁.set i x) (l₂.set i y)
  | _, _, _, .nil => .nil
  | _, _, 0, .cons _ t => .cons r t
  | _, _, i + 1, .cons q t => .cons q (Paired.set r i t)
theorem SlR.at_ {σp : Sto} {σ : L2.St} (x : SlR K px H ms σp σ) {i : Nat} {p : PV} (e : σp[i]? = some (some p)) : ∃ v, σ[i]? = some (some v) ∧ Rp K px H ms p v := by
  obtain ⟨y, h1, h2⟩ := Paired.get x e
  cases y with
  | none => exact h2.elim
  | some v => exact ⟨v, h1, h2⟩

/-! one V for a PV, but for new tuples -/
theorem Rp.int_of {i : Int} {v : V} (r : Rp K px H ms (.int i) v) : v = .int i := by cases r; rfl
theorem Rp.bl_of {i : Bool} {v : V} (r : Rp K px H ms (.bl i) v) : v = .bl i := by cases r; rfl
theorem Rp.str_of {i : Str} {v : V} (r : Rp K px H ms (.str i) v) : v = .str i := by cases r; rfl
theorem Rp.non_of {v : V} (r : Rp K px H ms .non v) : v = .non := by cases r; rfl
theorem Rp.ref_of {l : Nat} {v : V} (r : Rp K px H ms (.ref l) v) : ∃ a, v = .ref a ∧ ms[l]? = some a := by cases r with | ref e => exact ⟨_, rfl, e⟩
theorem Rp.ro_of {xs : List PV} {v : V} (r : Rp K px H ms (.ro xs) v) : ∃ a vs, v = .ref a ∧ RoL K H ms a vs ∧ Rps K px H ms xs vs := by cases r with | ro s t => exact ⟨_, _, rfl, s, t⟩
theorem Rp.tup_of {xs : List PV} {v : V} (r : Rp K px H ms (.tup xs) v) : ∃ a vs, v = .ref a ∧ SqT K H a vs ∧ Rps K px H ms xs vs := by cases r with | tup s t => exact ⟨_, _, rfl, s, t⟩

/-! ### steps of the heap -/
theorem HR.out {a : Addr} {u : HO} (r : HR w cl K px lk ms h H) (e : H a = some u) (n1 : ∀ vs, u ≠ .lst vs) (n2 : ∀ o vs, u ≠ .frz o vs) (n3 : ∀ φ, u ≠ .ext φ) (n4 : ∀ C dx gs, u ≠ .ins C dx gs) : a ∉ ms := fun m => by
  obtain ⟨l, o, _, _, x⟩ := r.mem m
  cases o with
  | lst xs => obtain ⟨_, vs, e', _⟩ := x; rw [e] at e'; cases e'; exact n1 _ rfl
  | rol xs => obtain ⟨_, o, vs, e', _⟩ := x; rw [e] at e'; cases e'; exact n2 _ _ rfl
  | dct kvs n => obtain ⟨_, o, es, ep, e', _⟩ := x; rw [e] at e'; cases e'; exact n3 _ rfl
  | set xs => exact x.elim
  | ins c fs => obtain ⟨C, dx, gs, _, e', _⟩ := x; rw [e] at e'; cases e'; exact n4 _ _ _ rfl
theorem HR.own {x dx : Addr} (r : HR w cl K px lk ms h H) (e : H dx = some (.own x)) : dx ∉ ms := r.out e (fun _ z => nomatch z) (fun _ _ z => nomatch z) (fun _ z => nomatch z) (fun _ _ _ z => nomatch z)
/-- an object, when the heap grows or one other object is changed -/
theorem ObR.keep {lk' : Addr → Option Obj} {a : Addr} {o : PO} (r : HR w cl K px lk ms h H) (x : ObR w cl K px lk ms H a o) (k : Keep ms H ms' H') (ha : H' a = H a) (hl : lk' a = lk a) : ObR w cl K px lk' ms' H' a o := by
  cases o with
  | lst xs => obtain ⟨z, vs, e, q⟩ := x; exact ⟨z, vs, ha.trans e, Rps.ext r k q⟩
  | rol xs => obtain ⟨z, o, vs, e, q⟩ := x; exact ⟨z, o, vs, ha.trans e, Rps.ext r k q⟩
  | dct kvs n =>
    obtain ⟨z, o, es, ep, e, c, d, q, l⟩ := x
    exact ⟨z, o, es, ep, ha.trans e, c, d, Paired.mapP q fun _ _ ⟨a, ⟨v, b1, b2⟩, ⟨u, c1, c2⟩⟩ => ⟨a, ⟨v, Rp.ext r k b1, b2⟩, ⟨u, Rp.ext r k c1, c2⟩⟩, by rw [hl]; exact l⟩
  | set xs => exact x
  | ins c fs =>
    obtain ⟨C, dx, gs, c1, e, nd, z, q⟩ := x
    exact ⟨C, dx, gs, c1, ha.trans e, (k.2 dx _ nd (r.own nd)).1, z, Paired.mapP q fun _ _ ⟨y, u⟩ => ⟨y, Rp.ext r k u⟩⟩
theorem HR.fresh {p : Addr} (r : HR w cl K px lk ms h H) (np : H p = none) : p ∉ ms := fun m => by
  obtain ⟨l, o, _, _, x⟩ := r.mem m
  obtain ⟨u, e⟩ := x.thr
  rw [np] at e
  cases e
/-- things beside ours change: nothing of ours does -/
theorem HR.side (r : HR w cl K px lk ms h H) (hm : ∀ a ∈ ms, H' a = H a) (hk : ∀ a o, H a = some o → a ∉ ms → H' a = some o) : Keep ms H ms H' ∧ HR w cl K px lk ms h H' := by
  have k : Keep ms H ms H' := ⟨List.prefix_refl _, fun a u e n => ⟨hk a u e n, n⟩⟩
  refine ⟨k, r.len, r.nd, fun l o' e => ?_, r.lks⟩
  obtain ⟨a, e1, x⟩ := r.obj l o' e
  exact ⟨a, e1, x.keep r k (hm a (List.mem_of_getElem? e1)) rfl⟩
/-- a new thing beside (a tuple): nothing of ours changes -/
theorem HR.beside (r : HR w cl K px lk ms h H) {p : Addr} {o : HO} (np : H p = none) : Keep ms H ms (upd H p o) ∧ HR w cl K px lk ms h (upd H p o) :=
  r.side (fun a m => upd_ne fun z => r.fresh np (z ▸ m)) fun a u e n => by rw [upd_ne (ne_of_none e np)]; exact e
/-- a new object of ours, at p -/
theorem HR.allocG (r : HR w cl K px lk ms h H) {p : Addr} {o : PO} (np : p ∉ ms) (hm : ∀ a ∈ ms, H' a = H a) (hk : ∀ a u, H a = some u → a ∉ ms → H' a = some u ∧ a ≠ p) (x : Keep ms H (ms ++ [p]) H' → ObR w cl K px lk (ms ++ [p]) H' p o) :
    Keep ms H (ms ++ [p]) H' ∧ HR w cl K px lk (ms ++ [p]) (h ++ [o]) H' ∧ (ms ++ [p])[h.length]? = some p := by
  have k : Keep ms H (ms ++ [p]) H' := ⟨List.prefix_append _ _, fun a u e n => ⟨(hk a u e n).1, fun m => by
    rcases List.mem_append.mp m with m | m
    · exact n m
    · exact (hk a u e n).2 (List.mem_singleton.mp m)⟩⟩
  refine ⟨k, ⟨by simp [r.len], ?_, fun l o' e => ?_, fun a o' e => let ⟨l, kvs, n, e1, e2, e3⟩ := r.lks a o' e; ⟨l, kvs, n, k.at e1, by rw [List.getElem?_append_left (List.getElem?_eq_some_iff.mp e2).1]; exact e2, e3⟩⟩, by rw [← r.len]; simp⟩
  · rw [List.nodup_append]
    exact ⟨r.nd, by simp, fun a m b m' => by rw [List.mem_singleton.mp m']; exact fun z => np (z ▸ m)⟩
  · by_cases hl : l < h.length
    · rw [List.getElem?_append_left hl] at e
      obtain ⟨a, e1, y⟩ := r.obj l o' e
      have ma : a ∈ ms := List.mem_of_getElem? e1
      exact ⟨a, k.at e1, y.keep r k (hm a ma) rfl⟩
    · have hl2 : l = h.length := by
        have := (List.getElem?_eq_some_iff.mp e).1
        simp at this
        omega
      subst hl2
      rw [List.getElem?_append_right (Nat.le_refl _)] at e
      simp at e
      subst e
      exact ⟨p, by rw [← r.len]; simp, x k⟩
theorem HR.alloc (r : HR w cl K px lk ms h H) {p : Addr} {u : HO} {o : PO} (np : H p = none) (x : Keep ms H (ms ++ [p]) (upd H p u) → ObR w cl K px lk (ms ++ [p]) (upd H p u) p o) :
    Keep ms H (ms ++ [p]) (upd H p u) ∧ HR w cl K px lk (ms ++ [p]) (h ++ [o]) (upd H p u) ∧ (ms ++ [p])[h.length]? = some p :=
  r.allocG (r.fresh np) (fun a m => upd_ne fun z => r.fresh np (z ▸ m)) (fun a u e n => ⟨by rw [upd_ne (ne_of_none e np)]; exact e, ne_of_none e np⟩) x
/-- one object of ours is changed -/
theorem HR.put (r : HR w cl K px lk ms h H) {l : Nat} {p : Addr} {u : HO} {o : PO} (e : ms[l]? = some p) (nl : lk p = none) (x : Keep ms H ms (upd H p u) → ObR w cl K px lk ms (upd H p u) p o) :
    Keep ms H ms (upd H p u) ∧ HR w cl K px lk ms (h.set l o) (upd H p u) := by
  have mp : p ∈ ms := List.mem_of_getElem? e
  have k : Keep ms H ms (upd H p u) := ⟨List.prefix_refl _, fun a v e n => ⟨by rw [upd_ne (show a ≠ p from fun z => n (by rw [z]; exact mp))]; exact e, n⟩⟩
  have hl : l < h.length := by rw [← r.len]; exact (List.getElem?_eq_some_iff.mp e).1
  refine ⟨k, by simp [r.len], r.nd, fun l' o' e' => ?_, fun a o' e' => ?_⟩
  rotate_left
  · obtain ⟨l1, kvs, n, e1, e2, e3⟩ := r.lks a o' e'
    refine ⟨l1, kvs, n, e1, ?_, e3⟩
    rw [List.getElem?_set_ne]
    · exact e2
    · rintro rfl
      rw [e] at e1
      cases e1
      rw [nl] at e'
      cases e'
  by_cases q : l' = l
  · subst q
    rw [List.getElem?_set_self hl] at e'
    cases e'
    exact ⟨p, e, x k⟩
  · rw [List.getElem?_set_ne (Ne.symm q)] at e'
    obtain ⟨a, e1, y⟩ := r.obj l' o' e'
    refine ⟨a, e1, y.keep r k (upd_ne fun z => ?_) rfl⟩
    subst z
    obtain ⟨h1, e3⟩ := List.getElem?_eq_some_iff.mp e1
    obtain ⟨h2, e4⟩ := List.getElem?_eq_some_iff.mp e
    exact q ((List.getElem_inj r.nd).mp (e3.trans e4.symm))
end
end Z
end

section
set_option Elab.async false
set_option linter.all false
set_option maxRecDepth 100000
set_option autoImplicit false
/-! S2: the small syntax and its evaluator. -/
namespace Z
open PySem PySem.Spec PyProof.Rows L2

inductive Res (α : Type) where
  | ok (a : α) (h : PH)
  | exc (c : Nat) (h : PH)
  | bad
def Res.bind {α β : Type} (r : Res α) (f : α → PH → Res β) : Res β := match r with
  | .ok a h => f a h
  | .exc c h => .exc c h
  | .bad => .bad
inductive Fl where
  | nx | brk | ret (v : PV)
inductive SRes where
  | go (f : Fl) (σ : Sto) (h : PH)
  | exc (c : Nat) (σ : Sto) (h : PH)
  | bad

inductive Op where
  | add | sub | mul | fdiv | mod | pow | bor
  deriving DecidableEq
inductive Cm where
  | eq | ne | lt | le | gt | ge | isn | nisn | isin | nin
  deriving DecidableEq
/-- types in isinstance -/
inductive Ty where
  | int | bool | str | tuple | list | dict | own (c : Nat) | value
  deriving DecidableEq
/-- built-in functions -/
inductive BI where
  | len | abs | max2 | min2 | max1 | min1 | sum | sorted | sortedMin | set | list | tuple | dict | int | str | all
  deriving DecidableEq
/-- methods of built-in types -/
inductive BM where
  | append | get1 | get2 | pop0 | pop1 | update | items | clear | setdefault | extend | insert | index | join | split | count | partition
  deriving DecidableEq

mutual
inductive E where
  | var (i : Nat)
  | non
  | bl (b : Bool)
  | int (i : Int)
  | str (x : Str)
  | cst (x : Str) (v : PV)
  | op (o : Op) (a b : E)
  | neg (a : E)
  | not (a : E)
  | and (es : List E)
  | or (es : List E)
  | cmp (c : Cm) (a b : E)
  | chain (c d : Cm) (a b e : E)
  | fld (a : E) (f : Str)
  | idx (a i : E)
  | slc (a : E) (lo hi : Option E)
  | tup (es : List E)
  | lst (es : List E)
  | dic (es : List E)
  | call (f : Nat) (es : List E)
  | mk (c : Nat) (es : List E)
  | meth (m : Str) (o : E) (es : List E)
  | bi (b : BI) (es : List E)
  | bm (m : BM) (o : E) (es : List E)
  | isi (a : E) (t : Ty)
  | lc (t : Tg) (i : It') (c : Option E) (e : E) (own : List Nat)
inductive It' where
  | val (e : E)
  | rng1 (e : E)
  | rng2 (a b : E)
  | rng3 (a b c : E)
  | enum (e : E)
  | zip (a b : E)
  | items (e : E)
inductive Tg where
  | nm (i : Nat)
  | tp (ts : List Tg)
  | sub (a i : E)
  | att (a : E) (f : Str)
end
inductive S where
  | asg (t : Tg) (e : E)
  | par (i j : Nat) (a b : E)
  | expr (e : E)
  | ret (e : E)
  | retN
  | ife (c : E) (a b : List S)
  | whl (c : E) (b : List S)
  | for_ (t : Tg) (i : It') (b : List S)
  | rse (c : Nat) (es : List E)
  | try_ (b : List S) (c : Nat) (n : Option Nat) (s : List S)
  | pass
  | brk

/-! ### data -/
def optAll {α : Type} : List (Option α) → Option (List α)
  | [] => some []
  | none :: _ => none
  | some a :: r => (optAll r).map (a :: ·)
/-- a value as data, lists read -/
def dat (h : PH) : Nat → PV → Option PyData
  | _, .non => some .none
  | _, .bl b => some (.bool b)
  | _, .int i => some (.int i)
  | _, .str x => some (.str x)
  | n + 1, .tup xs => (optAll (xs.map (dat h n))).map .tuple
  | n + 1, .ref l => match h[l]? with
    | some (.lst xs) => (optAll (xs.map (dat h n))).map .list
    | some (.rol xs) => (optAll (xs.map (dat h n))).map .list
    | _ => none
  | _, _ => none
abbrev dd (h : PH) (v : PV) : Option PyData := dat h 12 v
def isScal : PV → Bool
  | .non => true
  | .bl _ => true
  | .int _ => true
  | .str _ => true
  | _ => false
def noMix (a b : PV) : Bool := match a, b with
  | .bl _, .int _ => false
  | .int _, .bl _ => false
  | _, _ => true
/-- a == b -/
def pyEq (h : PH) (a b : PV) : Option Bool :=
  if isScal a && isScal b && noMix a b then some (decide (a = b))
  else match dd h a, dd h b with
    | some d, some e => if SeqAt.shaped d && SeqAt.shaped e then some (PyData.eqv d e) else none
    | _, _ => none
/-- a < b -/
def pyLt (h : PH) (a b : PV) : Option Bool := match a, b with
  | .int i, .int j => some (decide (i < j))
  | .str x, .str y => some (decide (x.cps.toList < y.cps.toList))
  | .tup _, .tup _ => match dd h a, dd h b with
    | some d, some e => if PySem.W.alike d e then some (PySem.W.dataLt d e) else none
    | _, _ => none
  | _, _ => none
/-- may be sorted, least or greatest taken of: alike, and all tuples with an item, or none a tuple nor None -/
def alikeAllB (ds : List PyData) : Bool := ds.all fun d => ds.all fun e => PySem.W.alike d e
def sortableB (ds : List PyData) : Bool := (ds.all fun d => match d with
    | .tuple (_ :: _) => true
    | _ => false) || ds.all fun d => match d with
    | .int _ => true
    | .str _ => true
    | .list _ => true
    | _ => false
def sortBy (vs : List PV) (ds : List PyData) : List PV := ((vs.zip ds).mergeSort fun p q => !PySem.W.dataLt q.2 p.2).map (·.1)
/-- sorted -/
def sortV (h : PH) (vs : List PV) : Option (List PV) := match optAll (vs.map (dd h)) with
  | some ds => if alikeAllB ds && sortableB ds then some (sortBy vs ds) else none
  | none => none
/-- the first least one -/
def leastBy : List (PV × PyData) → Option (PV × PyData)
  | [] => none
  | p :: r => some (r.foldl (fun m q => if PySem.W.dataLt q.2 m.2 then q else m) p)
def minV (h : PH) (vs : List PV) : Option PV := match optAll (vs.map (dd h)) with
  | some ds => if alikeAllB ds && sortableB ds then (leastBy (vs.zip ds)).map (·.1) else none
  | none => none
def mostBy : List (PV × PyData) → Option (PV × PyData)
  | [] => none
  | p :: r => some (r.foldl (fun m q => if PySem.W.dataLt m.2 q.2 then q else m) p)
def maxV (h : PH) (vs : List PV) : Option PV := match optAll (vs.map (dd h)) with
  | some ds => if alikeAllB ds && sortableB ds then (mostBy (vs.zip ds)).map (·.1) else none
  | none => none

/-! ### tables -/
def okKey (k : PV) : Bool := match nkey k with
  | some n => decide (n.depth ≤ 8)
  | none => false
def dget (kvs : List (PV × PV)) (k : PV) : Option PV := (kvs.find? fun p => decide (p.1 = k)).map (·.2)
def dput (kvs : List (PV × PV)) (k v : PV) : List (PV × PV) := if kvs.any (fun p => decide (p.1 = k)) then kvs.map (fun p => if p.1 = k then (p.1, v) else p) else kvs ++ [(k, v)]
def ddel (kvs : List (PV × PV)) (k : PV) : List (PV × PV) := kvs.filter fun p => decide (p.1 ≠ k)
/-- the key is of the table's sort -/
def fitK (kvs : List (PV × PV)) (k : PV) : Bool := okKey k && match kvs with
  | [] => true
  | p :: _ => tupK p.1 == tupK k

/-! ### operators by values -/
def ofO : Option (PV × PH) → Res PV
  | some p => .ok p.1 p.2
  | none => .bad
def ofU : Option PH → Res Unit
  | some h => .ok () h
  | none => .bad
def smallI (i : Int) : Bool := decide (-(2 ^ 64) < i) && decide (i < 2 ^ 64)
def addV (p q : PV) (h : PH) : Option (PV × PH) := match p, q with
  | .int i, .int j => some (.int (i + j), h)
  | .str x, .str y => if x.length + y.length ≤ sizeLine then some (.str (x ++ y), h) else none
  | .tup xs, .tup ys => if xs.length + ys.length ≤ sizeLine then some (.tup (xs ++ ys), h) else none
  | .ref l, .ref m => match h[l]?, h[m]? with
    | some (.lst xs), some (.lst ys) => if xs.length + ys.length ≤ sizeLine then some (.ref h.length, h ++ [.lst (xs ++ ys)]) else none
    | _, _ => none
  | _, _ => none
def subV (p q : PV) (h : PH) : Option (PV × PH) := match p, q with
  | .int i, .int j => some (.int (i - j), h)
  | _, _ => none
def mulV (p q : PV) (h : PH) : Option (PV × PH) := match p, q with
  | .int i, .int j => if smallI i || smallI j then some (.int (i * j), h) else none
  | _, _ => none
def fdivV (p q : PV) (h : PH) : Option (PV × PH) := match p, q with
  | .int i, .int j => if 0 < j ∧ j < 10 ^ 60 then some (.int (i / j), h) else none
  | _, _ => none
def modV (p q : PV) (h : PH) : Option (PV × PH) := match p, q with
  | .int i, .int j => if 0 < j then some (.int (i % j), h) else none
  | _, _ => none
def powV (p q : PV) (h : PH) : Option (PV × PH) := match p, q with
  | .int i, .int j => if 0 ≤ j ∧ j ≤ 1000000 ∧ i.natAbs < 2 ^ 64 then some (.int (i ^ j.toNat), h) else none
  | _, _ => none
def borV (p q : PV) (h : PH) : Option (PV × PH) := none
def opV : Op → PV → PV → PH → Option (PV × PH)
  | .add => addV
  | .sub => subV
  | .mul => mulV
  | .fdiv => fdivV
  | .mod => modV
  | .pow => powV
  | .bor => borV
def someR {α : Type} (o : Option α) (h : PH) : Res α := match o with
  | some a => .ok a h
  | none => .bad
def containsV (x c : PV) (h : PH) : Option Bool := match c with
  | .str y => match x with
    | .str z => some (!(Builtin.Str.occurrences y z 0 y.length 1).isEmpty)
    | _ => none
  | .ref l => match h[l]? with
    | some (.dct kvs _) => if fitK kvs x then some (dget kvs x).isSome else none
    | some (.lst ys) => match dd h x, optAll (ys.map (dat h 11)) with
      | some d, some es => if SeqAt.shaped d && SeqAt.shaped (.list es) then some (es.any fun z => PyData.eqv z d) else none
      | _, _ => none
    | _ => none
  | .tup ys => match dd h x, optAll (ys.map (dat h 11)) with
    | some d, some es => if SeqAt.shaped d && SeqAt.shaped (.tuple es) then some (es.any fun z => PyData.eqv z d) else none
    | _, _ => none
  | _ => none
def intCmp (f : Int → Int → Bool) (a b : PV) : Option Bool := match a, b with
  | .int i, .int j => some (f i j)
  | _, _ => none
def isNon (a b : PV) : Option Bool := match b with
  | .non => some (decide (a = .non))
  | _ => none
def cmpO : Cm → PV → PV → PH → Option Bool
  | .eq, a, b, h => pyEq h a b
  | .ne, a, b, h => (pyEq h a b).map (!·)
  | .lt, a, b, h => pyLt h a b
  | .gt, a, b, _ => intCmp (fun i j => decide (j < i)) a b
  | .le, a, b, _ => intCmp (fun i j => decide (i ≤ j)) a b
  | .ge, a, b, _ => intCmp (fun i j => decide (j ≤ i)) a b
  | .isn, a, b, _ => isNon a b
  | .nisn, a, b, _ => (isNon a b).map (!·)
  | .isin, a, b, h => containsV a b h
  | .nin, a, b, h => (containsV a b h).map (!·)
def truth (v : PV) (h : PH) : Option Bool := match v with
  | .non => some false
  | .bl b => some b
  | .int i => some (i != 0)
  | .str x => if x.length ≤ sizeLine then some (x.length != 0) else none
  | .ref l => match h[l]? with
    | some (.lst xs) => some (!xs.isEmpty)
    | some (.rol xs) => some (!xs.isEmpty)
    | _ => none
  | .tup xs => some (!xs.isEmpty)
  | _ => none
def idxV (a i : PV) (h : PH) : Option (PV × PH) := match a, i with
  | .ref l, k => match h[l]? with
    | some (.lst xs) => match k with
      | .int j => (atI xs j).map (·, h)
      | _ => none
    | some (.rol xs) => match k with
      | .int j => (atI xs j).map (·, h)
      | _ => none
    | some (.dct kvs _) => if fitK kvs k then (dget kvs k).map (·, h) else none
    | _ => none
  | .tup xs, .int j => (atI xs j).map (·, h)
  | .ro xs, .int j => (atI xs j).map (·, h)
  | .str x, .int j => if x.length ≤ sizeLine then (atI x.cps.toList j).map fun c => (PV.str ⟨#[c]⟩, h) else none
  | _, _ => none
/-- a slice -/
def cutL {α : Type} (xs : List α) (lo hi : Option Int) : List α := (xs.drop (HT.sIx xs.length 0 lo)).take (HT.sIx xs.length xs.length hi - HT.sIx xs.length 0 lo)
def slcV (a : PV) (lo hi : Option Int) (h : PH) : Option (PV × PH) := match a with
  | .ref l => match h[l]? with
    | some (.lst xs) => some (.ref h.length, h ++ [.lst (cutL xs lo hi)])
    | some (.rol xs) => some (.ref h.length, h ++ [.lst (cutL xs lo hi)])
    | _ => none
  | .tup xs => some (.tup (cutL xs lo hi), h)
  | .ro xs => some (.ref h.length, h ++ [.lst (cutL xs lo hi)])
  | .str x => if x.length ≤ sizeLine then some (.str (cutS x lo hi), h) else none
  | _ => none
def isiV (sub : Nat → Nat → Bool) (a : PV) (t : Ty) (h : PH) : Option Bool := match t, a with
  | .own c, .exc d => some (sub d c)
  | .value, .exc _ => some true
  | _, .exc _ => none
  | _, .ro _ => none
  | .own _, _ => none
  | .value, _ => none
  | .int, .int _ => some true
  | .int, .bl _ => some true
  | .bool, .bl _ => some true
  | .str, .str _ => some true
  | .tuple, .tup _ => some true
  | .list, .ref l => match h[l]? with
    | some (.lst _) => some true
    | some (.rol _) => some true
    | some (.dct _ _) => some false
    | _ => none
  | .dict, .ref l => match h[l]? with
    | some (.lst _) => some false
    | some (.rol _) => some false
    | some (.dct _ _) => some true
    | _ => none
  | _, .ref l => match h[l]? with
    | some (.lst _) => some false
    | some (.rol _) => some false
    | some (.dct _ _) => some false
    | _ => none
  | _, _ => some false
/-- the items of what is iterated once by a built-in -/
def seqV (v : PV) (h : PH) : Option (List PV) := match v with
  | .ref l => match h[l]? with
    | some (.lst xs) => some xs
    | some (.rol xs) => some xs
    | some (.dct kvs _) => some (kvs.map (·.1))
    | _ => none
  | .tup xs => some xs
  | _ => none
def dedup : List PV → List PV
  | [] => []
  | x :: xs => if x ∈ xs then dedup xs else x :: dedup xs
def intsOf : List PV → Option (List Int)
  | [] => some []
  | .int i :: r => (intsOf r).map (i :: ·)
  | _ => none
def blsOf : List PV → Option (List Bool)
  | [] => some []
  | .bl i :: r => (blsOf r).map (i :: ·)
  | _ => none
/-- is a list (read from or not), a dict, a set .. -/
def isLst (v : PV) (h : PH) : Bool := match v with
  | .ref l => match h[l]? with
    | some (.lst _) => true
    | some (.rol _) => true
    | _ => false
  | _ => false
def on0 (f : PH → Option (PV × PH)) : List PV → PH → Option (PV × PH)
  | [], h => f h
  | _, _ => none
def on1 (f : PV → PH → Option (PV × PH)) : List PV → PH → Option (PV × PH)
  | [v], h => f v h
  | _, _ => none
def on2 (f : PV → PV → PH → Option (PV × PH)) : List PV → PH → Option (PV × PH)
  | [v, w], h => f v w h
  | _, _ => none
def lenV (v : PV) (h : PH) : Option (PV × PH) := match v with
  | .str x => if x.length ≤ sizeLine then some (.int x.length, h) else none
  | .tup xs => some (.int xs.length, h)
  | .ro xs => some (.int xs.length, h)
  | .ref l => match h[l]? with
    | some (.lst xs) => some (.int xs.length, h)
    | some (.rol xs) => some (.int xs.length, h)
    | some (.dct kvs _) => some (.int kvs.length, h)
    | _ => none
  | _ => none
def absV (v : PV) (h : PH) : Option (PV × PH) := match v with
  | .int i => some (.int (if i < 0 then -i else i), h)
  | _ => none
def max2V (v w : PV) (h : PH) : Option (PV × PH) := match v, w with
  | .int i, .int j => some (.int (if j > i then j else i), h)
  | _, _ => none
def min2V (v w : PV) (h : PH) : Option (PV × PH) := match v, w with
  | .int i, .int j => some (.int (if j < i then j else i), h)
  | _, _ => none
def min1V (v : PV) (h : PH) : Option (PV × PH) := match seqV v h with
  | some xs => (minV h xs).map (·, h)
  | none => none
def max1V (v : PV) (h : PH) : Option (PV × PH) := match seqV v h with
  | some xs => (maxV h xs).map (·, h)
  | none => none
def sumV (v : PV) (h : PH) : Option (PV × PH) := if isLst v h then match (seqV v h).bind intsOf with
    | some is => some (.int is.sum, h)
    | none => none else none
def allV (v : PV) (h : PH) : Option (PV × PH) := if isLst v h then match (seqV v h).bind blsOf with
    | some bs => some (.bl (bs.all id), h)
    | none => none else none
def sortedV (v : PV) (h : PH) : Option (PV × PH) := match v with
  | .ref _ => match (seqV v h).bind (sortV h) with
    | some ys => some (.ref h.length, h ++ [.lst ys])
    | none => none
  | _ => none
def sortedMinV (v : PV) (h : PH) : Option (PV × PH) := if isLst v h then match seqV v h with
    | some xs => match optAll (xs.map fun x => (seqV x h).bind (minV h)) with
      | some ks => match optAll (ks.map (dd h)) with
        | some ds => if ks.all okKey && (alikeAllB ds && sortableB ds) then some (.ref h.length, h ++ [.lst (sortBy xs ds)]) else none
        | none => none
      | none => none
    | none => none else none
def listV (v : PV) (h : PH) : Option (PV × PH) := match seqV v h with
  | some xs => some (.ref h.length, h ++ [.lst xs])
  | none => none
def tupleV (v : PV) (h : PH) : Option (PV × PH) := if isLst v h then match seqV v h with
    | some xs => some (.tup xs, h)
    | none => none else none
def intV (v : PV) (h : PH) : Option (PV × PH) := match v with
  | .int i => some (.int i, h)
  | .bl b => some (.int (if b then 1 else 0), h)
  | _ => none
def strV (v : PV) (h : PH) : Option (PV × PH) := match v with
  | .int i => if i.natAbs.log2 < 1920 then some (.str (toString i), h) else none
  | _ => none
def noV : List PV → PH → Option (PV × PH) := fun _ _ => none
def biV : BI → List PV → PH → Option (PV × PH)
  | .len => on1 lenV
  | .abs => on1 absV
  | .max2 => on2 max2V
  | .min2 => on2 min2V
  | .max1 => on1 max1V
  | .min1 => on1 min1V
  | .sum => on1 sumV
  | .all => on1 allV
  | .sorted => on1 sortedV
  | .sortedMin => on1 sortedMinV
  | .list => on1 listV
  | .tuple => on1 tupleV
  | .int => on1 intV
  | .str => on1 strV
  | .set => noV
  | .dict => noV
/-- d.update(e): the pairs one by one -/
def dupd (kvs more : List (PV × PV)) : List (PV × PV) := more.foldl (fun acc p => dput acc p.1 p.2) kvs
def appendV (x v : PV) (h : PH) : Option (PV × PH) := match x with
  | .ref l => match h[l]? with
    | some (.lst xs) => if xs.length < sizeLine then some (.non, h.set l (.lst (xs ++ [v]))) else none
    | _ => none
  | _ => none
def get1V (x k : PV) (h : PH) : Option (PV × PH) := match x with
  | .ref l => match h[l]? with
    | some (.dct kvs _) => if fitK kvs k then some ((dget kvs k).getD .non, h) else none
    | _ => none
  | _ => none
def get2V (x k v : PV) (h : PH) : Option (PV × PH) := match x with
  | .ref l => match h[l]? with
    | some (.dct kvs _) => if fitK kvs k then some ((dget kvs k).getD v, h) else none
    | _ => none
  | _ => none
def pop1V (x k : PV) (h : PH) : Option (PV × PH) := match x with
  | .ref l => match h[l]? with
    | some (.dct kvs 0) => if fitK kvs k && tupK k then match dget kvs k with
      | some v => some (v, h.set l (.dct (ddel kvs k) 0))
      | none => none else none
    | _ => none
  | _ => none
def setdefV (x k v : PV) (h : PH) : Option (PV × PH) := match x with
  | .ref l => match h[l]? with
    | some (.dct kvs 0) => if fitK kvs k && (tupK k && decide (kvs.length < sizeLine)) then match dget kvs k with
      | some u => some (u, h)
      | none => some (v, h.set l (.dct (kvs ++ [(k, v)]) 0)) else none
    | _ => none
  | _ => none
def updateV (x y : PV) (h : PH) : Option (PV × PH) := match x, y with
  | .ref l, .ref m => match h[l]?, h[m]? with
    | some (.dct kvs 0), some (.dct more _) => if l ≠ m ∧ kvs ≠ [] ∧ kvs.length + more.length ≤ sizeLine ∧ kvs.all (fun p => tupK p.1) ∧ more.all (fun p => tupK p.1) then some (.non, h.set l (.dct (dupd kvs more) 0)) else none
    | _, _ => none
  | _, _ => none
def clearV (x : PV) (h : PH) : Option (PV × PH) := match x with
  | .ref l => match h[l]? with
    | some (.lst _) => some (.non, h.set l (.lst []))
    | _ => none
  | _ => none
def pop0V (x : PV) (h : PH) : Option (PV × PH) := match x with
  | .ref l => match h[l]? with
    | some (.lst xs) => match xs.getLast? with
      | some v => some (v, h.set l (.lst xs.dropLast))
      | none => none
    | _ => none
  | _ => none
def bmV : BM → PV → List PV → PH → Option (PV × PH)
  | .append => fun x => on1 (appendV x)
  | .get1 => fun x => on1 (get1V x)
  | .get2 => fun x => on2 (get2V x)
  | .pop1 => fun x => on1 (pop1V x)
  | .setdefault => fun x => on2 (setdefV x)
  | .update => fun x => on1 (updateV x)
  | .clear => fun x => on0 (clearV x)
  | .pop0 => fun x => on0 (pop0V x)
  | _ => fun _ => noV

/-- the type whose method it is -/
def bmT : BM → Ty
  | .append => .list
  | .get1 => .dict
  | .get2 => .dict
  | .pop0 => .list
  | .pop1 => .dict
  | .update => .dict
  | .items => .dict
  | .clear => .list
  | .setdefault => .dict
  | .extend => .list
  | .insert => .list
  | _ => .str
def tyV (t : Ty) (x : PV) (h : PH) : Bool := match t, x with
  | .str, .str _ => true
  | .list, .ref l => match h[l]? with
    | some (.lst _) => true
    | some (.rol _) => true
    | _ => false
  | .dict, .ref l => match h[l]? with
    | some (.dct _ _) => true
    | _ => false
  | _, _ => false

/-! ### what is walked -/
inductive Src where
  | lst (l : Nat) (xs : List PV)
  | tup (xs : List PV)
  | ro (xs : List PV)
  | rng (lo c : Int) (n : Nat)
  | dct (l : Nat) (ks : List PV) (n : Nat)
  | str (x : Str)
  | enum (l : Nat) (xs : List PV)
  | zip (l m : Nat) (xs ys : List PV)
  | zipT (xs ys : List PV)
  | items (l : Nat) (kvs : List (PV × PV)) (n : Nat)
/-- the items, in their order -/
def Src.all : Src → List PV
  | .lst _ xs => xs
  | .tup xs => xs
  | .ro xs => xs
  | .rng lo c n => (List.range n).map fun (i : Nat) => PV.int (lo + i * c)
  | .dct _ ks _ => ks
  | .str x => x.cps.toList.map fun c => PV.str ⟨#[c]⟩
  | .enum _ xs => (List.range xs.length).zipWith (fun (i : Nat) x => PV.tup [.int i, x]) xs
  | .zip _ _ xs ys => xs.zipWith (fun x y => PV.tup [x, y]) ys
  | .zipT xs ys => xs.zipWith (fun x y => PV.tup [x, y]) ys
  | .items _ kvs _ => kvs.map fun p => PV.tup [p.1, p.2]
/-- it stands as it stood -/
def lstAt (h : PH) (l : Nat) (xs : List PV) : Bool := match h[l]? with
  | some (.lst ys) => decide (ys = xs)
  | some (.rol ys) => decide (ys = xs)
  | _ => false
def Src.ok (h : PH) : Src → Bool
  | .lst l xs => lstAt h l xs
  | .enum l xs => lstAt h l xs
  | .zip l m xs ys => lstAt h l xs && lstAt h m ys
  | _ => true
def Src.lock (s : Src) (h : PH) : PH := match s with
  | .dct l _ n => match h[l]? with
    | some (.dct kvs _) => h.set l (.dct kvs (n + 1))
    | _ => h
  | .items l _ n => match h[l]? with
    | some (.dct kvs _) => h.set l (.dct kvs (n + 1))
    | _ => h
  | _ => h
def Src.unlock (s : Src) (h : PH) : PH := match s with
  | .dct l _ n => match h[l]? with
    | some (.dct kvs _) => h.set l (.dct kvs n)
    | _ => h
  | .items l _ n => match h[l]? with
    | some (.dct kvs _) => h.set l (.dct kvs n)
    | _ => h
  | _ => h
def srcOf (v : PV) (h : PH) : Option Src := match v with
  | .ref l => match h[l]? with
    | some (.lst xs) => some (.lst l xs)
    | some (.rol xs) => some (.lst l xs)
    | some (.dct kvs n) => some (.dct l (kvs.map (·.1)) n)
    | _ => none
  | .tup xs => some (.tup xs)
  | .ro xs => some (.ro xs)
  | _ => none
def small62 (i : Int) : Bool := decide (-(2 ^ 62) ≤ i) && decide (i < 2 ^ 62)

/-! ### the evaluator -/
def negR (x : PV) (h : PH) : Res PV := match x with
  | .int i => .ok (.int (-i)) h
  | _ => .bad
def intR (x : PV) (h : PH) : Res (Option Int) := match x with
  | .int i => .ok (some i) h
  | _ => .bad
def rng1R (v : PV) (h : PH) : Res Src := match v with
  | .int j => if small62 j then .ok (.rng 0 1 j.toNat) h else .bad
  | _ => .bad
def rng2R (v u : PV) (h : PH) : Res Src := match v, u with
  | .int i, .int j => if small62 i && small62 j then .ok (.rng i 1 (j - i).toNat) h else .bad
  | _, _ => .bad
def enumR (v : PV) (h : PH) : Res Src := match srcOf v h with
  | some (.lst l xs) => .ok (.enum l xs) h
  | _ => .bad
def zipR (v u : PV) (h : PH) : Res Src := match srcOf v h, srcOf u h with
  | some (.lst l xs), some (.lst m ys) => .ok (.zip l m xs ys) h
  | some (.tup xs), some (.tup ys) => .ok (.zipT xs ys) h
  | _, _ => .bad
def itemsR (v : PV) (h : PH) : Res Src := match v with
  | .ref l => match h[l]? with
    | some (.dct kvs n) => .ok (.items l kvs n) h
    | _ => .bad
  | _ => .bad
def nfuel : Nat := 1000000000
structure Env where
  call : Nat → List PV → PH → Res PV
  meth : Nat → Str → Option Nat
  ini : Nat → Option Nat
  sub : Nat → Nat → Bool
def wipeP (σ : Sto) : List Nat → Sto
  | [] => σ
  | i :: r => (wipeP σ r).set i none
def Env.callM (G : Env) (v : PV) (m : Str) (vs : List PV) (h : PH) : Res PV := match v with
  | .ref l => match h[l]? with
    | some (.ins c _) => match G.meth c m with
      | some f => G.call f (.ref l :: vs) h
      | none => .bad
    | _ => .bad
  | _ => .bad
def Env.make (G : Env) (c : Nat) (vs : List PV) (h : PH) : Res PV := match G.ini c with
  | some f => (G.call f (.ref h.length :: vs) (h ++ [.ins c []])).bind fun v h' => match v with
    | .non => .ok (.ref h.length) h'
    | _ => .bad
  | none => .bad
def fput (fs : List (Str × PV)) (f : Str) (v : PV) : List (Str × PV) := if fs.any (fun p => decide (p.1 = f)) then fs.map (fun p => if p.1 = f then (p.1, v) else p) else fs ++ [(f, v)]
def setV (a i v : PV) (h : PH) : Option PH := match a with
  | .ref l => match h[l]? with
    | some (.lst xs) => match i with
      | .int j => if 0 ≤ j ∧ j < xs.length then some (h.set l (.lst (xs.set j.toNat v))) else none
      | _ => none
    | some (.dct kvs 0) => if fitK kvs i && decide (kvs.length < sizeLine) then some (h.set l (.dct (dput kvs i v) 0)) else none
    | _ => none
  | _ => none
def fldV (a : PV) (f : Str) (h : PH) : Option (PV × PH) := match a with
  | .ref l => match h[l]? with
    | some (.ins _ fs) => (fs.lookup f).map (·, h)
    | _ => none
  | _ => none
def fsetV (a : PV) (f : Str) (v : PV) (h : PH) : Option PH := match a with
  | .ref l => match h[l]? with
    | some (.ins c fs) => if fs.length < 1000 then some (h.set l (.ins c (fput fs f v))) else none
    | _ => none
  | _ => none
def evens {α : Type} : List α → List α
  | a :: _ :: r => a :: evens r
  | _ => []
def odds {α : Type} : List α → List α
  | _ :: b :: r => b :: odds r
  | _ => []
/-- all keys tuples, or none -/
def sameK (ks : List PV) : Bool := ks.all tupK || ks.all fun k => !tupK k
/-- a dict displayed -/
def dicV (ks vs : List PV) (h : PH) : Option (PV × PH) := if ks.all okKey ∧ ks.length = vs.length ∧ ks.length ≤ 15 ∧ sameK ks then some (.ref h.length, h ++ [.dct (dupd [] (ks.zip vs)) 0]) else none
/-- a loop over given items -/
def loopL (s : Src) (body : PV → Sto → PH → SRes) : List PV → Sto → PH → SRes
  | [], σ, h => if s.ok h then .go .nx σ (s.unlock h) else .bad
  | x :: xs, σ, h => if s.ok h then match body x σ h with
    | .go .nx σ' h' => loopL s body xs σ' h'
    | .go .brk σ' h' => .go .nx σ' (s.unlock h')
    | .go (.ret v) σ' h' => .go (.ret v) σ' (s.unlock h')
    | .exc c σ' h' => .exc c σ' (s.unlock h')
    | .bad => .bad else .bad
def loopW (c : Sto → PH → Res Bool) (body : Sto → PH → SRes) : Nat → Sto → PH → SRes
  | 0, _, _ => .bad
  | n + 1, σ, h => match c σ h with
    | .ok true h1 => match body σ h1 with
      | .go .nx σ' h' => loopW c body n σ' h'
      | .go .brk σ' h' => .go .nx σ' h'
      | .go (.ret v) σ' h' => .go (.ret v) σ' h'
      | .exc c σ' h' => .exc c σ' h'
      | .bad => .bad
    | .ok false h1 => .go .nx σ h1
    | .exc e h1 => .exc e σ h1
    | .bad => .bad
/-- a comprehension's loop: the list so far -/
def loopC (s : Src) (turn : PV → PH → Res (Option PV)) : List PV → List PV → PH → Res (List PV)
  | [], acc, h => if s.ok h then .ok acc (s.unlock h) else .bad
  | x :: xs, acc, h => if s.ok h then match turn x h with
    | .ok (some v) h' => if acc.length < sizeLine then loopC s turn xs (acc ++ [v]) h' else .bad
    | .ok none h' => loopC s turn xs acc h'
    | _ => .bad else .bad

section
variable (G : Env)
mutual
def ev : E → Sto → PH → Res PV
  | .var i, σ, h => match σ[i]? with
    | some (some v) => .ok v h
    | _ => .bad
  | .non, _, h => .ok .non h
  | .bl b, _, h => .ok (.bl b) h
  | .int i, _, h => .ok (.int i) h
  | .str x, _, h => .ok (.str x) h
  | .cst _ v, _, h => .ok v h
  | .op o a b, σ, h => (ev a σ h).bind fun x h => (ev b σ h).bind fun y h => ofO (opV o x y h)
  | .neg a, σ, h => (ev a σ h).bind negR
  | .not a, σ, h => (ev a σ h).bind fun v h => (someR (truth v h) h).bind fun b h => .ok (.bl (!b)) h
  | .and es, σ, h => evAnd es σ h
  | .or es, σ, h => evOr es σ h
  | .cmp c a b, σ, h => (ev a σ h).bind fun x h => (ev b σ h).bind fun y h => (someR (cmpO c x y h) h).bind fun b h => .ok (.bl b) h
  | .chain c d a b e, σ, h => (ev a σ h).bind fun x h => (ev b σ h).bind fun y h => (someR (cmpO c x y h) h).bind fun k h =>
      if k then (ev e σ h).bind fun z h => (someR (cmpO d y z h) h).bind fun b h => .ok (.bl b) h else .ok (.bl false) h
  | .fld a f, σ, h => (ev a σ h).bind fun x h => ofO (fldV x f h)
  | .idx a i, σ, h => (ev a σ h).bind fun x h => (ev i σ h).bind fun y h => ofO (idxV x y h)
  | .slc a lo hi, σ, h => (ev a σ h).bind fun x h => (evI lo σ h).bind fun i h => (evI hi σ h).bind fun j h => ofO (slcV x i j h)
  | .tup es, σ, h => (evs es σ h).bind fun vs h => if vs.length ≤ sizeLine then .ok (.tup vs) h else .bad
  | .lst es, σ, h => (evs es σ h).bind fun vs h => if vs.length ≤ sizeLine then .ok (.ref h.length) (h ++ [.lst vs]) else .bad
  | .dic es, σ, h => (evs es σ h).bind fun vs h => ofO (dicV (evens vs) (odds vs) h)
  | .call f es, σ, h => (evs es σ h).bind fun vs h => G.call f vs h
  | .mk c es, σ, h => (evs es σ h).bind fun vs h => G.make c vs h
  | .meth m o es, σ, h => (ev o σ h).bind fun x h => (evs es σ h).bind fun vs h => G.callM x m vs h
  | .bi b es, σ, h => (evs es σ h).bind fun vs h => ofO (biV b vs h)
  | .bm m o es, σ, h => (ev o σ h).bind fun x h => if tyV (bmT m) x h then (evs es σ h).bind fun vs h => ofO (bmV m x vs h) else .bad
  | .isi a t, σ, h => (ev a σ h).bind fun x h => (someR (isiV G.sub x t h) h).bind fun b h => .ok (.bl b) h
  | .lc t i c e own, σ, h => (evSrc i σ h).bind fun s h =>
      (loopC s (fun x h => (tgt t x (wipeP σ own) h).bind fun σ2 h => (evC c σ2 h).bind fun b h => if b then (ev e σ2 h).bind fun v h => .ok (some v) h else .ok none h) s.all [] (s.lock h)).bind fun vs h =>
        .ok (.ref h.length) (h ++ [.lst vs])
def evs : List E → Sto → PH → Res (List PV)
  | [], _, h => .ok [] h
  | e :: es, σ, h => (ev e σ h).bind fun v h => (evs es σ h).bind fun vs h => .ok (v :: vs) h
def evI : Option E → Sto → PH → Res (Option Int)
  | none, _, h => .ok none h
  | some e, σ, h => (ev e σ h).bind intR
def evC : Option E → Sto → PH → Res Bool
  | none, _, h => .ok true h
  | some e, σ, h => (ev e σ h).bind fun v h => someR (truth v h) h
def evAnd : List E → Sto → PH → Res PV
  | [], _, _ => .bad
  | [e], σ, h => ev e σ h
  | e :: e' :: es, σ, h => (ev e σ h).bind fun v h => (someR (truth v h) h).bind fun b h => if b then evAnd (e' :: es) σ h else .ok v h
def evOr : List E → Sto → PH → Res PV
  | [], _, _ => .bad
  | [e], σ, h => ev e σ h
  | e :: e' :: es, σ, h => (ev e σ h).bind fun v h => (someR (truth v h) h).bind fun b h => if b then .ok v h else evOr (e' :: es) σ h
def evSrc : It' → Sto → PH → Res Src
  | .val e, σ, h => (ev e σ h).bind fun v h => someR (srcOf v h) h
  | .rng1 e, σ, h => (ev e σ h).bind rng1R
  | .rng2 a b, σ, h => (ev a σ h).bind fun v h => (ev b σ h).bind fun u h => rng2R v u h
  | .rng3 a b c, σ, h => .bad
  | .enum e, σ, h => (ev e σ h).bind enumR
  | .zip a b, σ, h => (ev a σ h).bind fun v h => (ev b σ h).bind fun u h => zipR v u h
  | .items e, σ, h => (ev e σ h).bind itemsR
def tgt : Tg → PV → Sto → PH → Res Sto
  | .nm i, v, σ, h => .ok (σ.set i (some v)) h
  | .tp ts, v, σ, h => match v with
    | .tup xs => if xs.length = ts.length then tgts ts xs σ h else .bad
    | .ref l => match h[l]? with
      | some (.lst xs) => if xs.length = ts.length then tgts ts xs σ h else .bad
      | _ => .bad
    | _ => .bad
  | .sub a i, v, σ, h => (ev a σ h).bind fun x h => (ev i σ h).bind fun y h => (ofU (setV x y v h)).bind fun _ h => .ok σ h
  | .att a f, v, σ, h => (ev a σ h).bind fun x h => (ofU (fsetV x f v h)).bind fun _ h => .ok σ h
def tgts : List Tg → List PV → Sto → PH → Res Sto
  | [], [], σ, h => .ok σ h
  | t :: ts, x :: xs, σ, h => (tgt t x σ h).bind fun σ h => tgts ts xs σ h
  | _, _, _, _ => .bad
end
/-- as a test -/
def evT (e : E) (σ : Sto) (h : PH) : Res Bool := (ev G e σ h).bind fun v h => someR (truth v h) h
def ofRes (σ : Sto) : Res Sto → SRes
  | .ok σ' h => .go .nx σ' h
  | .exc c h => .exc c σ h
  | .bad => .bad
mutual
def ex : S → Sto → PH → SRes
  | .asg t e, σ, h => match ev G e σ h with
    | .ok v h => ofRes σ (tgt G t v σ h)
    | .exc c h => .exc c σ h
    | .bad => .bad
  | .par i j a b, σ, h => match (ev G a σ h).bind fun x h => (ev G b σ h).bind fun y h => .ok (x, y) h with
    | .ok p h => .go .nx ((σ.set i (some p.1)).set j (some p.2)) h
    | .exc c h => .exc c σ h
    | .bad => .bad
  | .expr e, σ, h => match ev G e σ h with
    | .ok _ h => .go .nx σ h
    | .exc c h => .exc c σ h
    | .bad => .bad
  | .ret e, σ, h => match ev G e σ h with
    | .ok v h => .go (.ret v) σ h
    | .exc c h => .exc c σ h
    | .bad => .bad
  | .retN, σ, h => .go (.ret .non) σ h
  | .ife c a b, σ, h => match evT G c σ h with
    | .ok k h => if k then exs a σ h else exs b σ h
    | .exc c h => .exc c σ h
    | .bad => .bad
  | .whl c b, σ, h => loopW (evT G c) (exs b) nfuel σ h
  | .for_ t i b, σ, h => match evSrc G i σ h with
    | .ok s h => loopL s (fun x σ h => match tgt G t x σ h with
      | .ok σ2 h2 => exs b σ2 h2
      | .exc c h => .exc c σ h
      | .bad => .bad) s.all σ (s.lock h)
    | .exc c h => .exc c σ h
    | .bad => .bad
  | .rse c _, σ, h => .exc c σ h
  | .try_ b c n s, σ, h => match exs b σ h with
    | .exc d σ' h' => if G.sub d c then (match n with
        | none => exs s σ' h'
        | some i => match exs s (σ'.set i (some (.exc d))) h' with
          | .go f σ2 h2 => .go f (σ2.set i none) h2
          | _ => .bad) else .exc d σ' h'
    | r => r
  | .pass, σ, h => .go .nx σ h
  | .brk, σ, h => .go .brk σ h
def exs : List S → Sto → PH → SRes
  | [], σ, h => .go .nx σ h
  | s :: ss, σ, h => match ex s σ h with
    | .go .nx σ' h' => exs ss σ' h'
    | r => r
end
end
end Z
end

section
set_option Elab.async false
set_option linter.all false
set_option maxRecDepth 100000
set_option autoImplicit false
set_option maxHeartbeats 2000000
/-! S3: readings of the evaluator's results; operators by values. -/
namespace Z
open PySem PySem.Spec PyProof.Rows L2

/-- what is fixed: the world, the classes, the written part, the exceptions at hand -/
structure Gm where
  w : World
  cl : Nat → Option Addr
  K : PySem.W.Frag
  px : List (Addr × Nat)
abbrev Gm.HR (g : Gm) := Z.HR g.w g.cl g.K g.px
abbrev Gm.Rp (g : Gm) := Z.Rp g.K g.px
abbrev Gm.Rps (g : Gm) := Z.Rps g.K g.px
abbrev Gm.SlR (g : Gm) := Z.SlR g.K g.px

abbrev Rel (α β : Type) := List Addr → Hp → α → β → Prop
/-- what is to be shown of a result -/
def PostR {α β : Type} (g : Gm) (lk : Addr → Option Obj) (ms : List Addr) (H : Hp) (rel : Rel α β) (r : Res α) (Q : β → Hp → Prop) (W : Value → Option Addr → Hp → Prop) : Prop := match r with
  | .ok v h' => ∀ ms' H' u, Keep ms H ms' H' → g.HR lk ms' h' H' → rel ms' H' v u → Q u H'
  | .exc c h' => ∀ ms' H' C, Keep ms H ms' H' → g.HR lk ms' h' H' → g.cl c = some C → W (.ref C) none H'
  | .bad => False
abbrev rV (g : Gm) : Rel PV V := fun ms H p v => g.Rp H ms p v
abbrev rVs (g : Gm) : Rel (List PV) (List V) := fun ms H p v => g.Rps H ms p v
abbrev rB : Rel Bool Bool := fun _ _ a b => a = b

section
variable {g : Gm} {α β γ δ : Type} {lk : Addr → Option Obj} {ms ms1 : List Addr} {H H1 : Hp} {h : PH} {W W' : Value → Option Addr → Hp → Prop}
theorem PostR.from {rel : Rel α β} {r : Res α} {Q : β → Hp → Prop} (p : PostR g lk ms H rel r Q W) (k : Keep ms H ms1 H1) : PostR g lk ms1 H1 rel r Q W := by
  cases r with
  | ok v h' => exact fun ms' H' u k' hr ru => p ms' H' u (k.trans k') hr ru
  | exc c h' => exact fun ms' H' C k' hr hc => p ms' H' C (k.trans k') hr hc
  | bad => exact p
theorem PostR.mono {rel : Rel α β} {r : Res α} {Q Q' : β → Hp → Prop} (p : PostR g lk ms H rel r Q W) (i : ∀ u H, Q u H → Q' u H) : PostR g lk ms H rel r Q' W := by
  cases r with
  | ok v h' => exact fun ms' H' u k' hr ru => i _ _ (p ms' H' u k' hr ru)
  | exc c h' => exact p
  | bad => exact p
theorem PostR.bind {relA : Rel α γ} {relB : Rel β δ} {r : Res α} {f : α → PH → Res β} {Q : δ → Hp → Prop} (p : PostR g lk ms H relB (r.bind f) Q W) :
    PostR g lk ms H relA r (fun u H1 => ∃ ms1 h1 v, r = .ok v h1 ∧ Keep ms H ms1 H1 ∧ g.HR lk ms1 h1 H1 ∧ relA ms1 H1 v u ∧ PostR g lk ms1 H1 relB (f v h1) Q W) W := by
  cases r with
  | ok v h' => exact fun ms' H' u k hr ru => ⟨ms', h', v, rfl, k, hr, ru, PostR.from (r := f v h') p k⟩
  | exc c h' => exact p
  | bad => exact p
theorem PostR.intro {rel : Rel α β} {v : α} {h' : PH} {Q : β → Hp → Prop} {u : β} (p : PostR g lk ms H rel (.ok v h') Q W) (k : Keep ms H ms1 H1) (hr : g.HR lk ms1 h' H1) (ru : rel ms1 H1 v u) : Q u H1 := p ms1 H1 u k hr ru
end

/-- a reading by the evaluator's result -/
def tR {α β : Type} (g : Gm) (rel : Rel α β) (W : WX) (d : Sto → PH → Res α) : L2.St → Hp → (β → Hp → Prop) → Prop := fun σ H Q =>
  ∃ lk ms σp h, g.HR lk ms h H ∧ g.SlR H ms σp σ ∧ PostR g lk ms H rel (d σp h) Q (fun c d H' => W c d σ H')
abbrev tE (g : Gm) (W : WX) (d : Sto → PH → Res PV) : TE := tR g (rV g) W d
abbrev tA (g : Gm) (W : WX) (d : Sto → PH → Res (List PV)) : TA := tR g (rVs g) W d
abbrev tT (g : Gm) (W : WX) (d : Sto → PH → Res Bool) : TT := tR g rB W d
/-- a rule by values -/
def v2 (g : Gm) (f : PV → PV → PH → Option (PV × PH)) : R2 := fun x y H Q => ∃ lk ms h p q, g.HR lk ms h H ∧ g.Rp H ms p x ∧ g.Rp H ms q y ∧ PostR g lk ms H (rV g) (ofO (f p q h)) Q (fun _ _ _ => False)
def vN (g : Gm) (f : List PV → PH → Option (PV × PH)) : List V → Hp → VK → Prop := fun xs H Q => ∃ lk ms h ps, g.HR lk ms h H ∧ g.Rps H ms ps xs ∧ PostR g lk ms H (rV g) (ofO (f ps h)) Q (fun _ _ _ => False)
/-- a two-place test by values, no new things -/
def vT (g : Gm) (f : PV → PV → PH → Option Bool) : R2 := fun x y H Q => ∃ lk ms h p q b, g.HR lk ms h H ∧ g.Rp H ms p x ∧ g.Rp H ms q y ∧ f p q h = some b ∧ Q (.bl b) H

section
variable {X : Cx} {e a b : Expr} {te te' : TE} {g : Gm}
theorem _root_.L2.PE.mono (h : PE X e te) (i : ∀ σ H Q, te' σ H Q → te σ H Q) : PE X e te' := ⟨fun pins s σ H Q I q => h.run pins s σ H Q I (i σ H Q q)⟩
theorem _root_.L2.PA.mono {es : List Expr} {t t' : TA} (h : PA X es t) (i : ∀ σ H Q, t' σ H Q → t σ H Q) : PA X es t' := ⟨fun pos pins s σ H Q I q => h.run pos pins s σ H Q I (i σ H Q q)⟩
theorem _root_.L2.PT.mono {t t' : TT} (h : PT X e t) (i : ∀ σ H Q, t' σ H Q → t σ H Q) : PT X e t' := ⟨fun pins s σ H Q I q => h.run pins s σ H Q I (i σ H Q q)⟩
theorem _root_.L2.PSs.mono {sts : List Stmt} {t t' : TS} (h : PSs X sts t) (i : ∀ D σ H, t' D σ H → t D σ H) : PSs X sts t' := ⟨fun pins s σ H D I q => h.run pins s σ H D I (i D σ H q)⟩
theorem _root_.L2.PS.mono {st : Stmt} {t t' : TS} (h : PS X st t) (i : ∀ D σ H, t' D σ H → t D σ H) : PS X st t' := ⟨fun pins s σ H D I q => h.run pins s σ H D I (i D σ H q)⟩
theorem ofO_noexc {o : Option (PV × PH)} {c : Nat} {h : PH} : ofO o ≠ .exc c h := by cases o <;> intro z <;> cases z
theorem PostR.ofO_any {lk : Addr → Option Obj} {ms : List Addr} {H : Hp} {rel : Rel PV V} {o : Option (PV × PH)} {Q : VK} {W W' : Value → Option Addr → Hp → Prop} (p : PostR g lk ms H rel (ofO o) Q W) : PostR g lk ms H rel (ofO o) Q W' := by
  cases o with
  | none => exact p
  | some x => exact p

/-- sequencing: the first part's result, the second's -/
theorem seq2 {W : WX} {da db : Sto → PH → Res PV} {f : PV → PV → PH → Res PV} {r : R2} {σ : L2.St} {H : Hp} {Q : VK}
    (hr : ∀ lk ms h p q x y H Q, g.HR lk ms h H → g.Rp H ms p x → g.Rp H ms q y → PostR g lk ms H (rV g) (f p q h) Q (fun c d H' => W c d σ H') → r x y H Q)
    (h : tE g W (fun σ h => (da σ h).bind fun x h => (db σ h).bind fun y h => f x y h) σ H Q) : tOp r (tE g W da) (tE g W db) σ H Q := by
  obtain ⟨lk, ms, σp, h, hR, sl, p⟩ := h
  refine ⟨lk, ms, σp, h, hR, sl, (p.bind (relA := rV g)).mono ?_⟩
  rintro x H1 ⟨ms1, h1, v, _, k1, hR1, rx, p1⟩
  refine ⟨lk, ms1, σp, h1, hR1, sl.ext hR k1, (p1.bind (relA := rV g)).mono ?_⟩
  rintro y H2 ⟨ms2, h2, u, _, k2, hR2, ry, p2⟩
  exact hr lk ms2 h2 v u x y H2 Q hR2 (Rp.ext hR1 k2 rx) ry p2
theorem seq1 {W : WX} {da : Sto → PH → Res PV} {f : PV → PH → Res PV} {r : V → Hp → VK → Prop} {σ : L2.St} {H : Hp} {Q : VK}
    (hr : ∀ lk ms h p x H Q, g.HR lk ms h H → g.Rp H ms p x → PostR g lk ms H (rV g) (f p h) Q (fun c d H' => W c d σ H') → r x H Q)
    (h : tE g W (fun σ h => (da σ h).bind fun x h => f x h) σ H Q) : tUn r (tE g W da) σ H Q := by
  obtain ⟨lk, ms, σp, h, hR, sl, p⟩ := h
  refine ⟨lk, ms, σp, h, hR, sl, (p.bind (relA := rV g)).mono ?_⟩
  rintro x H1 ⟨ms1, h1, v, _, k1, hR1, rx, p1⟩
  exact hr lk ms1 h1 v x H1 Q hR1 rx p1
end

/-! ### operators -/
section
variable {X : Cx} {g : Gm} {lk : Addr → Option Obj} {ms : List Addr} {h : PH} {H : Hp} {l : Nat} {a : Addr}
theorem HR.lst {xs : List PV} (r : g.HR lk ms h H) (e : h[l]? = some (.lst xs)) : ∃ a vs, ms[l]? = some a ∧ H a = some (.lst vs) ∧ g.Rps H ms xs vs ∧ xs.length ≤ sizeLine := by
  obtain ⟨a, e1, z, vs, e2, rs⟩ := r.obj l _ e
  exact ⟨a, vs, e1, e2, rs, z⟩
theorem HR.rol {xs : List PV} (r : g.HR lk ms h H) (e : h[l]? = some (.rol xs)) : ∃ a vs, ms[l]? = some a ∧ Rd H a (.lst vs) ∧ g.Rps H ms xs vs ∧ xs.length ≤ sizeLine := by
  obtain ⟨a, e1, z, o, vs, e2, rs⟩ := r.obj l _ e
  exact ⟨a, vs, e1, .inr ⟨o, e2⟩, rs, z⟩
theorem HR.anyl {xs : List PV} (r : g.HR lk ms h H) (e : h[l]? = some (.lst xs) ∨ h[l]? = some (.rol xs)) : ∃ a vs, ms[l]? = some a ∧ SqL g.K H a vs ∧ g.Rps H ms xs vs ∧ xs.length ≤ sizeLine := by
  rcases e with e | e
  · obtain ⟨a, vs, e1, e2, rs, z⟩ := HR.lst r e
    exact ⟨a, vs, e1, .inl (.inl e2), rs, z⟩
  · obtain ⟨a, vs, e1, e2, rs, z⟩ := HR.rol r e
    exact ⟨a, vs, e1, .inl e2, rs, z⟩
theorem Rp.ref_at {v : V} (rp : g.Rp H ms (.ref l) v) (e : ms[l]? = some a) : v = .ref a := by
  obtain ⟨b, rfl, e'⟩ := rp.ref_of
  rw [e] at e'
  cases e'
  rfl
/-- a new list of ours -/
theorem HR.newL {xs : List PV} {vs : List V} {p : Addr} (r : g.HR lk ms h H) (np : H p = none) (z : xs.length ≤ sizeLine) (rs : g.Rps H ms xs vs) :
    Keep ms H (ms ++ [p]) (upd H p (.lst vs)) ∧ g.HR lk (ms ++ [p]) (h ++ [.lst xs]) (upd H p (.lst vs)) ∧ g.Rp (upd H p (.lst vs)) (ms ++ [p]) (.ref h.length) (.ref p) := by
  obtain ⟨k, r', e⟩ := r.alloc (u := .lst vs) (o := .lst xs) np fun k => ⟨z, vs, upd_same, Rps.ext r k rs⟩
  exact ⟨k, r', .ref e⟩
/-- a new tuple -/
theorem HR.newT {xs : List PV} {vs : List V} {p : Addr} (r : g.HR lk ms h H) (np : H p = none) (rs : g.Rps H ms xs vs) :
    Keep ms H ms (upd H p (.tup vs)) ∧ g.HR lk ms h (upd H p (.tup vs)) ∧ g.Rp (upd H p (.tup vs)) ms (.tup xs) (.ref p) := by
  obtain ⟨k, r'⟩ := r.beside (o := .tup vs) np
  exact ⟨k, r', .tup (SqT.of upd_same) (Rps.ext r k rs)⟩
/-- a list of ours is changed -/
theorem HR.putL {xs ys : List PV} {vs : List V} (r : g.HR lk ms h H) (e : ms[l]? = some a) (e0 : h[l]? = some (.lst ys)) (z : xs.length ≤ sizeLine) (rs : g.Rps H ms xs vs) :
    Keep ms H ms (upd H a (.lst vs)) ∧ g.HR lk ms (h.set l (.lst xs)) (upd H a (.lst vs)) := by
  refine r.put (u := .lst vs) e ?_ fun k => ⟨z, vs, upd_same, Rps.ext r k rs⟩
  cases q : lk a with
  | none => rfl
  | some o =>
    obtain ⟨l', kvs, n, e1, e2, _⟩ := r.lks a o q
    obtain ⟨h1, e3⟩ := List.getElem?_eq_some_iff.mp e1
    obtain ⟨h2, e4⟩ := List.getElem?_eq_some_iff.mp e
    have : l' = l := (List.getElem_inj r.nd).mp (e3.trans e4.symm)
    subst this
    rw [e0] at e2
    cases e2
theorem ok_add (hK : X.K = g.K) : OpR X (binaryOp .Add) (v2 g (opV .add)) := by
  intro pins s σ H x y v u Q I rx ry hh
  obtain ⟨lk, ms, h, p, q, hR, rp, rq, P⟩ := hh
  unfold opV addV at P
  dsimp only at P
  split at P
  · cases rp; cases rq
    exact op_add pins s σ H _ _ v u Q I rx ry ⟨_, _, rfl, rfl, P.intro Keep.refl hR .int⟩
  · split at P
    · rename_i hz
      cases rp; cases rq
      exact op_add_str pins s σ H _ _ v u Q I rx ry ⟨_, _, rfl, rfl, hz, P.intro Keep.refl hR .str⟩
    · exact P.elim
  · split at P
    · rename_i hz
      obtain ⟨a, vs, rfl, s1, r1⟩ := rp.tup_of
      obtain ⟨b, us, rfl, s2, r2⟩ := rq.tup_of
      refine op_catA pins s σ H _ _ v u Q I rx ry ⟨a, b, vs, us, rfl, rfl, hK ▸ s1, hK ▸ s2, by rw [← r1.length, ← r2.length]; exact hz, fun e => ?_, fun _ e => ?_, fun _ _ p np => ?_⟩
      · subst e
        cases r1
        exact P.intro Keep.refl hR (.tup s2 r2)
      · subst e
        cases r2
        rw [List.append_nil] at P
        exact P.intro Keep.refl hR (.tup s1 r1)
      · obtain ⟨k, hR', rp'⟩ := HR.newT hR np (r1.append r2)
        exact P.intro k hR' rp'
    · exact P.elim
  · split at P
    · rename_i e1 e2
      split at P
      · rename_i hz
        obtain ⟨a, vs, f1, g1, r1, z1⟩ := HR.lst hR e1
        obtain ⟨b, us, f2, g2, r2, z2⟩ := HR.lst hR e2
        have x1 := Rp.ref_at rp f1
        have y1 := Rp.ref_at rq f2
        subst x1 y1
        refine op_cat pins s σ H _ _ v u Q I rx ry ⟨a, b, vs, us, rfl, rfl, g1, g2, by rw [← r1.length, ← r2.length]; exact hz, fun p np => ?_⟩
        obtain ⟨k, hR', rp'⟩ := HR.newL hR np (by rw [List.length_append]; exact hz) (r1.append r2)
        exact P.intro k hR' rp'
      · exact P.elim
    · exact P.elim
  · exact P.elim
theorem ok_sub : OpR X (binaryOp .Sub) (v2 g (opV .sub)) := by
  intro pins s σ H x y v u Q I rx ry hh
  obtain ⟨lk, ms, h, p, q, hR, rp, rq, P⟩ := hh
  unfold opV subV at P
  dsimp only at P
  split at P
  · cases rp; cases rq
    exact op_sub pins s σ H _ _ v u Q I rx ry ⟨_, _, rfl, rfl, P.intro Keep.refl hR .int⟩
  · exact P.elim
theorem small_ok {i : Int} (h : smallI i = true) : -(2 ^ 64) < i ∧ i < 2 ^ 64 := by
  unfold smallI at h
  rw [Bool.and_eq_true] at h
  exact ⟨of_decide_eq_true h.1, of_decide_eq_true h.2⟩
theorem ok_mul : OpR X (binaryOp .Mult) (v2 g (opV .mul)) := by
  intro pins s σ H x y v u Q I rx ry hh
  obtain ⟨lk, ms, h, p, q, hR, rp, rq, P⟩ := hh
  unfold opV mulV at P
  dsimp only at P
  split at P
  · split at P
    · rename_i hz
      cases rp; cases rq
      refine op_mul pins s σ H _ _ v u Q I rx ry ⟨_, _, rfl, rfl, ?_, P.intro Keep.refl hR .int⟩
      rw [Bool.or_eq_true] at hz
      exact hz.imp small_ok small_ok
    · exact P.elim
  · exact P.elim
theorem ok_fdiv : OpR X (binaryOp .FloorDiv) (v2 g (opV .fdiv)) := by
  intro pins s σ H x y v u Q I rx ry hh
  obtain ⟨lk, ms, h, p, q, hR, rp, rq, P⟩ := hh
  unfold opV fdivV at P
  dsimp only at P
  split at P
  · split at P
    · rename_i hz
      cases rp; cases rq
      refine op_fdivW pins s σ H _ _ v u Q I rx ry ⟨_, _, rfl, rfl, ⟨hz.1, ?_⟩, P.intro Keep.refl hR .int⟩
      rename_i j
      have h2 : (10 : Int) ^ 60 ≤ 2 ^ 200 := by decide
      have h3 := Int.lt_of_lt_of_le hz.2 h2
      have h4 : j.natAbs ≠ 0 := by omega
      have h5 : j.natAbs < 2 ^ 200 := by
        have : ((j.natAbs : Nat) : Int) < 2 ^ 200 := by rw [Int.natAbs_of_nonneg (by omega)]; exact h3
        exact_mod_cast this
      have h6 : j.natAbs.log2 < 200 := (Nat.log2_lt h4).mpr h5
      omega
    · exact P.elim
  · exact P.elim
theorem ok_mod : OpR X (binaryOp .Mod) (v2 g (opV .mod)) := by
  intro pins s σ H x y v u Q I rx ry hh
  obtain ⟨lk, ms, h, p, q, hR, rp, rq, P⟩ := hh
  unfold opV modV at P
  dsimp only at P
  split at P
  · split at P
    · rename_i hz
      cases rp; cases rq
      exact op_mod pins s σ H _ _ v u Q I rx ry ⟨_, _, rfl, rfl, hz, P.intro Keep.refl hR .int⟩
    · exact P.elim
  · exact P.elim
theorem ok_pow : OpR X (binaryOp .Pow) (v2 g (opV .pow)) := by
  intro pins s σ H x y v u Q I rx ry hh
  obtain ⟨lk, ms, h, p, q, hR, rp, rq, P⟩ := hh
  unfold opV powV at P
  dsimp only at P
  split at P
  · split at P
    · rename_i hz
      cases rp; cases rq
      exact op_pow pins s σ H _ _ v u Q I rx ry ⟨_, _, rfl, rfl, hz, P.intro Keep.refl hR .int⟩
    · exact P.elim
  · exact P.elim

/-! ### data read -/
theorem optAll_map {α β : Type} {f : α → Option β} : ∀ {xs : List α} {ys : List β}, optAll (xs.map f) = some ys → Paired (fun x y => f x = some y) xs ys
  | [], ys, e => by cases e; exact .nil
  | x :: xs, ys, e => by
    rw [List.map_cons] at e
    cases hx : f x with
    | none => rw [hx] at e; cases e
    | some y =>
      rw [hx] at e
      unfold optAll at e
      cases hr : optAll (xs.map f) with
      | none => rw [hr] at e; cases e
      | some r =>
        rw [hr] at e
        cases e
        exact .cons hx (optAll_map hr)
theorem dp_all {K : PySem.W.Frag} {px : List (Addr × Nat)} {n : Nat} (ih : ∀ {p : PV} {v : V} {d : PyData}, Z.Rp K px H ms p v → dat h n p = some d → Dp K H v d) : ∀ {xs : List PV} {vs : List V} {ds : List PyData}, Z.Rps K px H ms xs vs → Paired (fun x y => dat h n x = some y) xs ds → DpAll K H vs ds
  | _, _, _, .nil, .nil => .nil
  | _, _, _, .cons a r, .cons b t => .cons (ih a b) (dp_all ih r t)
theorem dat_dp (hR : g.HR lk ms h H) : ∀ (n : Nat) {p : PV} {v : V} {d : PyData}, g.Rp H ms p v → dat h n p = some d → Dp g.K H v d := by
  intro n
  induction n with
  | zero =>
    intro p v d rp e
    cases rp <;> simp [dat] at e
    · subst e; exact .non
    · subst e; exact .bl _
    · subst e; exact .int _
    · subst e; exact .str _
  | succ n ih =>
    intro p v d rp e
    cases rp with
    | non => simp [dat] at e; subst e; exact .non
    | bl => simp [dat] at e; subst e; exact .bl _
    | int => simp [dat] at e; subst e; exact .int _
    | str => simp [dat] at e; subst e; exact .str _
    | tup s r =>
      simp only [dat, Option.map_eq_some_iff] at e
      obtain ⟨ds, e1, rfl⟩ := e
      exact .tup s (dp_all ih r (optAll_map e1))
    | ref e0 =>
      simp only [dat] at e
      split at e
      · rename_i xs eh
        simp only [Option.map_eq_some_iff] at e
        obtain ⟨ds, e1, rfl⟩ := e
        obtain ⟨a, vs, f1, s, r, z⟩ := HR.anyl hR (.inl eh)
        rw [e0] at f1
        cases f1
        exact .lst s (dp_all ih r (optAll_map e1))
      · rename_i xs eh
        simp only [Option.map_eq_some_iff] at e
        obtain ⟨ds, e1, rfl⟩ := e
        obtain ⟨a, vs, f1, s, r, z⟩ := HR.anyl hR (.inr eh)
        rw [e0] at f1
        cases f1
        exact .lst s (dp_all ih r (optAll_map e1))
      · cases e
    | exc _ => simp [dat] at e
    | ro _ _ => simp [dat] at e

/-! ### == and != -/
theorem scal_eq {p q : PV} {x y : V} (rp : g.Rp H ms p x) (rq : g.Rp H ms q y) (hp : isScal p = true) (hq : isScal q = true) (hm : noMix p q = true) : scal x y = true ∧ decide (x = y) = decide (p = q) := by
  cases p <;> first | (exact absurd hp Bool.false_ne_true) | skip
  all_goals cases q <;> first | (exact absurd hq Bool.false_ne_true) | (exact absurd hm Bool.false_ne_true) | skip
  all_goals cases rp
  all_goals cases rq
  all_goals refine ⟨rfl, ?_⟩
  all_goals simp
theorem ok_eq (hK : X.K = g.K) (hu : X.A.units + 64 < cLine) : OpR X (compareOp .Eq) (vT g (cmpO .eq)) := by
  intro pins s σ H x y v u Q I rx ry hh
  obtain ⟨lk, ms, h, p, q, b, hR, rp, rq, e, hq⟩ := hh
  unfold cmpO pyEq at e
  dsimp only at e
  split at e
  · rename_i c
    rw [Bool.and_eq_true, Bool.and_eq_true] at c
    cases e
    obtain ⟨sc, ed⟩ := scal_eq rp rq c.1.1 c.1.2 c.2
    exact op_eq pins s σ H _ _ v u Q I rx ry ⟨sc, by rw [ed]; exact hq⟩
  · split at e
    · rename_i d1 d2 f1 f2
      split at e
      · rename_i c
        rw [Bool.and_eq_true] at c
        cases e
        exact op_eqD hu pins s σ H _ _ v u Q I rx ry ⟨d1, d2, hK ▸ dat_dp hR 12 rp f1, hK ▸ dat_dp hR 12 rq f2, c.1, c.2, hq⟩
      · cases e
    · cases e
theorem ok_ne (hK : X.K = g.K) (hu : X.A.units + 64 < cLine) : OpR X (compareOp .NotEq) (vT g (cmpO .ne)) := by
  intro pins s σ H x y v u Q I rx ry hh
  obtain ⟨lk, ms, h, p, q, b, hR, rp, rq, e, hq⟩ := hh
  unfold cmpO pyEq at e
  simp only [Option.map_eq_some_iff] at e
  obtain ⟨b', e, rfl⟩ := e
  split at e
  · rename_i c
    rw [Bool.and_eq_true, Bool.and_eq_true] at c
    cases e
    obtain ⟨sc, ed⟩ := scal_eq rp rq c.1.1 c.1.2 c.2
    exact op_ne pins s σ H _ _ v u Q I rx ry ⟨sc, by rw [ed]; exact hq⟩
  · split at e
    · rename_i d1 d2 f1 f2
      split at e
      · rename_i c
        rw [Bool.and_eq_true] at c
        cases e
        exact op_neD hu pins s σ H _ _ v u Q I rx ry ⟨d1, d2, hK ▸ dat_dp hR 12 rp f1, hK ▸ dat_dp hR 12 rq f2, c.1, c.2, hq⟩
      · cases e
    · cases e

/-! ### order -/
theorem intCmp_some {f : Int → Int → Bool} {p q : PV} {b : Bool} (e : intCmp f p q = some b) : ∃ i j, p = .int i ∧ q = .int j ∧ b = f i j := by
  unfold intCmp at e
  split at e
  · cases e; exact ⟨_, _, rfl, rfl, rfl⟩
  · cases e
theorem ok_gt : OpR X (compareOp .Gt) (vT g (cmpO .gt)) := by
  intro pins s σ H x y v u Q I rx ry hh
  obtain ⟨lk, ms, h, p, q, b, hR, rp, rq, e, hq⟩ := hh
  obtain ⟨i, j, rfl, rfl, rfl⟩ := intCmp_some e
  cases rp; cases rq
  exact op_gt pins s σ H _ _ v u Q I rx ry ⟨_, _, rfl, rfl, hq⟩
theorem ok_le : OpR X (compareOp .LtE) (vT g (cmpO .le)) := by
  intro pins s σ H x y v u Q I rx ry hh
  obtain ⟨lk, ms, h, p, q, b, hR, rp, rq, e, hq⟩ := hh
  obtain ⟨i, j, rfl, rfl, rfl⟩ := intCmp_some e
  cases rp; cases rq
  exact op_le pins s σ H _ _ v u Q I rx ry ⟨_, _, rfl, rfl, hq⟩
theorem ok_ge : OpR X (compareOp .GtE) (vT g (cmpO .ge)) := by
  intro pins s σ H x y v u Q I rx ry hh
  obtain ⟨lk, ms, h, p, q, b, hR, rp, rq, e, hq⟩ := hh
  obtain ⟨i, j, rfl, rfl, rfl⟩ := intCmp_some e
  cases rp; cases rq
  exact op_ge pins s σ H _ _ v u Q I rx ry ⟨_, _, rfl, rfl, hq⟩
theorem non_dec {p : PV} {x : V} (rp : g.Rp H ms p x) : decide (x = .non) = decide (p = .non) := by
  cases rp <;> simp
theorem ok_isn : OpR X (compareOp .Is) (vT g (cmpO .isn)) := by
  intro pins s σ H x y v u Q I rx ry hh
  obtain ⟨lk, ms, h, p, q, b, hR, rp, rq, e, hq⟩ := hh
  unfold cmpO isNon at e
  dsimp only at e
  split at e
  · cases e
    cases rq
    exact op_isN pins s σ H _ _ v u Q I rx ry ⟨rfl, by rw [non_dec rp]; exact hq⟩
  · cases e
theorem ok_nisn : OpR X (compareOp .IsNot) (vT g (cmpO .nisn)) := by
  intro pins s σ H x y v u Q I rx ry hh
  obtain ⟨lk, ms, h, p, q, b, hR, rp, rq, e, hq⟩ := hh
  unfold cmpO isNon at e
  simp only [Option.map_eq_some_iff] at e
  obtain ⟨b', e, rfl⟩ := e
  split at e
  · cases e
    cases rq
    exact op_notN pins s σ H _ _ v u Q I rx ry ⟨rfl, by rw [non_dec rp]; exact hq⟩
  · cases e
end
end Z
end

section
set_option Elab.async false
set_option linter.all false
set_option maxRecDepth 100000
set_option autoImplicit false
set_option maxHeartbeats 2000000
/-! S4: dicts. -/
namespace Z
open PySem PySem.Spec PyProof.Rows L2

section
variable {X : Cx} {g : Gm} {lk : Addr → Option Obj} {ms : List Addr} {h : PH} {H : Hp} {l : Nat} {a : Addr} {pins : List (Addr × Obj)} {s : Shared} {σ : L2.St}
mutual
theorem nest_of (I : L2.Inv X pins σ H s) (hK : X.K = g.K) : ∀ {p : PV} {v : V} {k : NestedKey} {u : Value}, g.Rp H ms p v → nkey p = some k → RelV v u → NestedIs s.heap k u
  | .int i, v, k, u, rp, e, r => by
    cases rp
    rw [nkey] at e; cases e
    obtain ⟨t, rfl⟩ := r
    exact .int _ _
  | .str i, v, k, u, rp, e, r => by
    cases rp
    rw [nkey] at e; cases e
    obtain ⟨t, rfl⟩ := r
    exact .text _ _
  | .tup xs, v, k, u, rp, e, r => by
    cases rp with
    | tup st rs =>
      rw [nkey] at e
      cases hk : nkeys xs with
      | none => rw [hk] at e; cases e
      | some ks =>
        rw [hk] at e
        cases e
        cases r
        obtain ⟨its, rv, ⟨o, ho, hc, n, hd⟩, _⟩ := I.tuple (hK ▸ st)
        exact .tup ho hc hd (by simpa using nests_of I hK rs hk rv)
  | .non, v, k, u, rp, e, r => by simp [nkey] at e
  | .bl _, v, k, u, rp, e, r => by simp [nkey] at e
  | .ref _, v, k, u, rp, e, r => by simp [nkey] at e
  | .exc _, v, k, u, rp, e, r => by simp [nkey] at e
  | .ro _, v, k, u, rp, e, r => by simp [nkey] at e
theorem nests_of (I : L2.Inv X pins σ H s) (hK : X.K = g.K) : ∀ {p : List PV} {v : List V} {k : List NestedKey} {u : List Value}, g.Rps H ms p v → nkeys p = some k → Vals v u → NestedAll s.heap k u
  | [], v, k, u, rp, e, r => by
    cases rp
    cases r
    rw [nkeys] at e; cases e
    exact .nil
  | x :: xs, v, k, u, rp, e, r => by
    cases rp with
    | cons r1 r2 =>
      cases r with
      | cons q1 q2 =>
        rw [nkeys] at e
        cases hx : nkey x with
        | none => rw [hx] at e; simp at e
        | some kx =>
          cases hxs : nkeys xs with
          | none => rw [hx, hxs] at e; simp at e
          | some kxs =>
            rw [hx, hxs] at e
            simp at e
            subst e
            exact .cons (nest_of I hK r1 hx q1) (nests_of I hK r2 hxs q2)
end

/-- a pair and the library's entry by a tuple's address -/
def XsR (g : Gm) (ms : List Addr) (H : Hp) (kv : PV × PV) (x : NestedKey × Addr × Value) : Prop := nkey kv.1 = some x.1 ∧ x.1.depth ≤ 8 ∧ g.Rp H ms kv.1 (.ref x.2.1) ∧ ∃ v, g.Rp H ms kv.2 v ∧ RelV v x.2.2
theorem tup_xs {P : Program} : ∀ {kvs : List (PV × PV)} {es : List DictEntry}, Paired (EnR g.w g.K g.px H ms) kvs es → (∀ p ∈ kvs, tupK p.1 = true) → ∃ xs, Paired (XsR g ms H) kvs xs ∧ es = xs.map (entryOfKey (nestedKind P g.w))
  | _, _, .nil, _ => ⟨[], .nil, rfl⟩
  | kv :: kvs, e :: es, .cons r t, hk => by
    obtain ⟨xs, p, q⟩ := tup_xs (P := P) t fun p hp => hk p (List.mem_cons_of_mem _ hp)
    obtain ⟨⟨k, e1, e2, e3⟩, ⟨v, f1, f2⟩, f3⟩ := r
    have ht := hk kv List.mem_cons_self
    obtain ⟨eh, ek, ev⟩ := e
    obtain ⟨kv1, kv2⟩ := kv
    cases kv1 with
    | tup ys =>
      obtain ⟨b, vs, rfl, s1, s2⟩ := f1.tup_of
      cases f2
      dsimp only at e3
      subst e3
      exact ⟨(k, b, ev) :: xs, .cons ⟨e1, e2, f1, f3⟩ p, by rw [List.map_cons, ← q]; rfl⟩
    | _ => exact absurd ht Bool.false_ne_true
theorem xs_en {P : Program} : ∀ {kvs : List (PV × PV)} {xs : List (NestedKey × Addr × Value)}, Paired (XsR g ms H) kvs xs → Paired (EnR g.w g.K g.px H ms) kvs (xs.map (entryOfKey (nestedKind P g.w)))
  | _, _, .nil => .nil
  | kv :: kvs, x :: xs, .cons r t => by
    obtain ⟨r1, r2, r3, r4⟩ := r
    exact .cons ⟨⟨x.1, r1, r2, rfl⟩, ⟨_, r3, rfl⟩, r4⟩ (xs_en t)
theorem Xs.keys_inj : ∀ {kvs : List (PV × PV)} {xs : List (NestedKey × Addr × Value)}, Paired (XsR g ms H) kvs xs → (kvs.map (·.1)).Nodup → (xs.map (·.1)).Nodup := by
  intro kvs xs r
  induction r with
  | nil => intro _; simp
  | @cons kv x kvs xs r t ih =>
    intro hn
    rw [List.map_cons, List.nodup_cons] at hn ⊢
    refine ⟨fun hm => hn.1 ?_, ih hn.2⟩
    obtain ⟨y, hy, e⟩ := List.mem_map.mp hm
    obtain ⟨i, hi⟩ := List.mem_iff_getElem?.mp hy
    have : ∀ {kvs : List (PV × PV)} {xs : List (NestedKey × Addr × Value)}, Paired (XsR g ms H) kvs xs → ∀ (i : Nat) y, xs[i]? = some y → ∃ z, kvs[i]? = some z ∧ XsR g ms H z y := by
      intro kvs xs r
      induction r with
      | nil => intro i y e; simp at e
      | cons r t ih =>
        intro i y e
        cases i with
        | zero => simp at e; subst e; exact ⟨_, rfl, r⟩
        | succ i => obtain ⟨z, h1, h2⟩ := ih i y (by simpa using e); exact ⟨z, by simpa using h1, h2⟩
    obtain ⟨z, hz, zr⟩ := this t i y hi
    have : kv.1 = z.1 := nkey_inj r.1 (by rw [zr.1, e])
    rw [this]
    exact List.mem_map.mpr ⟨z, List.mem_of_getElem? hz, rfl⟩
theorem Xs.get : ∀ {kvs : List (PV × PV)} {xs : List (NestedKey × Addr × Value)} {k : PV} {nk : NestedKey}, Paired (XsR g ms H) kvs xs → nkey k = some nk →
    (match dget kvs k, (atKey xs nk).map (·.2) with
      | none, none => True
      | some p, some u => ∃ v, g.Rp H ms p v ∧ RelV v u
      | _, _ => False) := by
  intro kvs xs k nk r e
  induction r with
  | nil => exact trivial
  | @cons kv x kvs xs r t ih =>
    by_cases c : kv.1 = k
    · have c' : x.1 = nk := by have := r.1; rw [c, e] at this; exact (Option.some.inj this).symm
      have e1 : dget (kv :: kvs) k = some kv.2 := by simp [dget, c]
      have e2 : (atKey (x :: xs) nk).map (·.2) = some x.2.2 := by simp [atKey, c']
      rw [e1, e2]
      exact r.2.2.2
    · have c' : ¬ x.1 = nk := fun z => c (nkey_inj r.1 (by rw [e, z]))
      have e1 : dget (kv :: kvs) k = dget kvs k := by simp [dget, c]
      have e2 : (atKey (x :: xs) nk).map (·.2) = (atKey xs nk).map (·.2) := by simp [atKey, c']
      rw [e1, e2]
      exact ih
theorem Xs.any {kvs : List (PV × PV)} {xs : List (NestedKey × Addr × Value)} {k : PV} {nk : NestedKey} (r : Paired (XsR g ms H) kvs xs) (e : nkey k = some nk) : (kvs.any fun p => decide (p.1 = k)) = (atKey xs nk).isSome := by
  induction r with
  | nil => rfl
  | @cons kv x kvs xs r t ih =>
    by_cases c : kv.1 = k
    · have c' : x.1 = nk := by have := r.1; rw [c, e] at this; exact (Option.some.inj this).symm
      simp [atKey, c, c']
    · have c' : ¬ x.1 = nk := fun z => c (nkey_inj r.1 (by rw [e, z]))
      simp only [List.any_cons, decide_eq_false c, Bool.false_or, ih]
      simp [atKey, c']
theorem Xs.put {kvs : List (PV × PV)} {xs : List (NestedKey × Addr × Value)} {k v : PV} {nk : NestedKey} {b : Addr} {u : Value} {x : V} (r : Paired (XsR g ms H) kvs xs) (e : nkey k = some nk) (hd : nk.depth ≤ 8) (rk : g.Rp H ms k (.ref b)) (rv : g.Rp H ms v x) (ru : RelV x u) :
    Paired (XsR g ms H) (dput kvs k v) (storedH xs nk b u) := by
  unfold dput storedH
  rw [Xs.any r e]
  split
  · rename_i hq
    clear hq
    induction r with
    | nil => exact .nil
    | @cons kv x kvs xs r t ih =>
      refine .cons ?_ ih
      by_cases c : kv.1 = k
      · have c' : x.1 = nk := by have := r.1; rw [c, e] at this; exact (Option.some.inj this).symm
        dsimp only
        rw [if_pos c, putAt, if_pos c']
        exact ⟨r.1, r.2.1, r.2.2.1, _, rv, ru⟩
      · have c' : ¬ x.1 = nk := fun z => c (nkey_inj r.1 (by rw [e, z]))
        dsimp only
        rw [if_neg c, putAt, if_neg c']
        exact r
  · exact Paired.snoc r ⟨e, hd, rk, _, rv, ru⟩
theorem Xs.del {kvs : List (PV × PV)} {xs : List (NestedKey × Addr × Value)} {k : PV} {nk : NestedKey} (r : Paired (XsR g ms H) kvs xs) (e : nkey k = some nk) : Paired (XsR g ms H) (ddel kvs k) (withoutH xs nk) := by
  unfold ddel withoutH
  induction r with
  | nil => exact .nil
  | @cons kv x kvs xs r t ih =>
    rw [List.filter_cons, List.filter_cons]
    by_cases c : kv.1 = k
    · have c' : x.1 = nk := by have := r.1; rw [c, e] at this; exact (Option.some.inj this).symm
      rw [if_neg (by simp [c]), if_neg (by simp [c'])]
      exact ih
    · have c' : ¬ x.1 = nk := fun z => c (nkey_inj r.1 (by rw [e, z]))
      rw [if_pos (by simp [c]), if_pos (by simp [c'])]
      exact .cons r ih

/-! keys that are no tuples -/
def PkR (k : PV) (j : Key) : Prop := match k, j with
  | .int i, .inl n => i = n
  | .str x, .inr y => x = y
  | _, _ => False
def KvR (g : Gm) (ms : List Addr) (H : Hp) (kv : PV × PV) (x : Key × Value) : Prop := PkR kv.1 x.1 ∧ ∃ v, g.Rp H ms kv.2 v ∧ RelV v x.2
theorem PkR.inj {k k' : PV} {j : Key} (a : PkR k j) (b : PkR k' j) : k = k' := by
  cases k <;> cases k' <;> cases j <;> simp_all [PkR]
theorem PkR.inj' {k : PV} {j j' : Key} (a : PkR k j) (b : PkR k j') : j = j' := by
  cases k <;> cases j <;> cases j' <;> simp_all [PkR]
theorem pk_of {k : PV} {n : NestedKey} (e : nkey k = some n) (ht : tupK k = false) : ∃ j, PkR k j := by
  cases k with
  | int i => exact ⟨.inl i, rfl⟩
  | str i => exact ⟨.inr i, rfl⟩
  | tup _ => exact absurd ht (by simp [tupK])
  | _ => simp [nkey] at e
theorem pk_is {P : Program} {k : PV} {j : Key} {v : V} {u : Value} (r : PkR k j) (rp : g.Rp H ms k v) (ru : RelV v u) : (mixKind P g.w).is j u = true := by
  cases k <;> cases j <;> simp [PkR] at r
  · subst r; cases rp; obtain ⟨t, rfl⟩ := ru; exact mixKind_int _ _ _ _
  · subst r; cases rp; obtain ⟨t, rfl⟩ := ru; exact mixKind_str _ _ _ _
theorem pk_hash {P : Program} {k : PV} {j : Key} {n : NestedKey} (r : PkR k j) (e : nkey k = some n) : n.hash g.w = (mixKind P g.w).hash j := by
  cases k <;> cases j <;> simp [PkR] at r
  · subst r; rw [nkey] at e; cases e; rfl
  · subst r; rw [nkey] at e; cases e; rfl
theorem leaf_xs {P : Program} : ∀ {kvs : List (PV × PV)} {es : List DictEntry}, Paired (EnR g.w g.K g.px H ms) kvs es → (∀ p ∈ kvs, tupK p.1 = false) →
    ∃ xs, Paired (KvR g ms H) kvs xs ∧ Pairs (mixKind P g.w) es xs ∧ ∀ e ∈ es, ∃ k, (mixKind P g.w).is k e.key = true ∧ e.hash = (mixKind P g.w).hash k
  | _, _, .nil, _ => ⟨[], .nil, .nil, fun _ z => nomatch z⟩
  | kv :: kvs, e :: es, .cons r t, hk => by
    obtain ⟨xs, p, q, hx⟩ := leaf_xs (P := P) t fun p hp => hk p (List.mem_cons_of_mem _ hp)
    obtain ⟨⟨k, e1, e2, e3⟩, ⟨v, f1, f2⟩, f3⟩ := r
    obtain ⟨j, hj⟩ := pk_of e1 (hk kv List.mem_cons_self)
    refine ⟨(j, e.val) :: xs, .cons ⟨hj, f3⟩ p, .cons (pk_is hj f1 f2) rfl q, fun e' he' => ?_⟩
    rcases List.mem_cons.mp he' with rfl | he'
    · exact ⟨j, pk_is hj f1 f2, by rw [e3]; exact pk_hash hj e1⟩
    · exact hx e' he'
/-- a token of a key carried by value -/
theorem rel_of_is {P : Program} {k : PV} {j : Key} {u : Value} (r : PkR k j) (h : (mixKind P g.w).is j u = true) : ∃ v, g.Rp H ms k v ∧ RelV v u := by
  rw [mixKind_is] at h
  rcases keyIs_shape h with ⟨i, t, rfl, rfl⟩ | ⟨x, t, rfl, rfl⟩
  · cases k <;> simp [PkR] at r
    subst r
    exact ⟨_, .int, ⟨t, rfl⟩⟩
  · cases k <;> simp [PkR] at r
    subst r
    exact ⟨_, .str, ⟨t, rfl⟩⟩
theorem leaf_en {P : Program} : ∀ {kvs : List (PV × PV)} {es : List DictEntry} {xs : List (Key × Value)}, Paired (KvR g ms H) kvs xs → Pairs (mixKind P g.w) es xs → (∀ e ∈ es, ∃ k, (mixKind P g.w).is k e.key = true ∧ e.hash = (mixKind P g.w).hash k) → Paired (EnR g.w g.K g.px H ms) kvs es
  | _, _, _, .nil, .nil, _ => .nil
  | kv :: kvs, e :: es, x :: xs, .cons r t, .cons q1 q2 q3, hx => by
    refine .cons ?_ (leaf_en t q3 fun e' he' => hx e' (List.mem_cons_of_mem _ he'))
    obtain ⟨k, h1, h2⟩ := hx e List.mem_cons_self
    have ek : k = x.1 := (mixKind P g.w).inj _ _ _ h1 q1
    subst ek
    obtain ⟨v, r1, r2⟩ := rel_of_is (H := H) (ms := ms) r.1 q1
    have hn : ∃ n, nkey kv.1 = some n ∧ n.depth ≤ 8 := by
      have := r.1
      cases hk : kv.1 <;> rw [hk] at this <;> cases hx1 : x.1 <;> rw [hx1] at this <;> simp [PkR] at this
      · exact ⟨_, by rw [nkey], by simp [NestedKey.depth]⟩
      · exact ⟨_, by rw [nkey], by simp [NestedKey.depth]⟩
    obtain ⟨n, e1, e2⟩ := hn
    exact ⟨⟨n, e1, e2, by rw [h2]; exact (pk_hash r.1 e1).symm⟩, ⟨v, r1, r2⟩, by rw [q2]; exact r.2⟩
theorem Kv.nodup {kvs : List (PV × PV)} {xs : List (Key × Value)} (r : Paired (KvR g ms H) kvs xs) (hn : (kvs.map (·.1)).Nodup) : (xs.map (·.1)).Nodup := by
  have mem : ∀ {kvs : List (PV × PV)} {xs : List (Key × Value)}, Paired (KvR g ms H) kvs xs → ∀ y ∈ xs, ∃ z ∈ kvs, KvR g ms H z y := by
    intro kvs xs r
    induction r with
    | nil => intro y e; cases e
    | cons r t ih =>
      intro y e
      rcases List.mem_cons.mp e with rfl | e
      · exact ⟨_, List.mem_cons_self, r⟩
      · obtain ⟨z, h1, h2⟩ := ih y e; exact ⟨z, List.mem_cons_of_mem _ h1, h2⟩
  induction r with
  | nil => simp
  | @cons kv x kvs xs r t ih =>
    rw [List.map_cons, List.nodup_cons] at hn ⊢
    refine ⟨fun hm => hn.1 ?_, ih hn.2⟩
    obtain ⟨y, hy, e⟩ := List.mem_map.mp hm
    obtain ⟨z, hz, zr⟩ := mem t y hy
    have zr1 := zr.1
    rw [e] at zr1
    rw [r.1.inj zr1]
    exact List.mem_map.mpr ⟨z, hz, rfl⟩
theorem Kv.get {kvs : List (PV × PV)} {xs : List (Key × Value)} {k : PV} {j : Key} (r : Paired (KvR g ms H) kvs xs) (e : PkR k j) :
    (match dget kvs k, valueAt xs j with
      | none, none => True
      | some p, some u => ∃ v, g.Rp H ms p v ∧ RelV v u
      | _, _ => False) := by
  induction r with
  | nil => exact trivial
  | @cons kv x kvs xs r t ih =>
    by_cases c : kv.1 = k
    · have c' : x.1 = j := by have r1 := r.1; rw [c] at r1; exact r1.inj' e
      have e1 : dget (kv :: kvs) k = some kv.2 := by simp [dget, c]
      have e2 : valueAt (x :: xs) j = some x.2 := by simp [valueAt, c']
      rw [e1, e2]
      exact r.2
    · have c' : ¬ x.1 = j := fun z => c (by have r1 := r.1; rw [z] at r1; exact r1.inj e)
      have e1 : dget (kv :: kvs) k = dget kvs k := by simp [dget, c]
      have e2 : valueAt (x :: xs) j = valueAt xs j := by simp [valueAt, c']
      rw [e1, e2]
      exact ih
theorem Kv.any {kvs : List (PV × PV)} {xs : List (Key × Value)} {k : PV} {j : Key} (r : Paired (KvR g ms H) kvs xs) (e : PkR k j) : (kvs.any fun p => decide (p.1 = k)) = xs.any fun p => decide (p.1 = j) := by
  induction r with
  | nil => rfl
  | @cons kv x kvs xs r t ih =>
    by_cases c : kv.1 = k
    · have c' : x.1 = j := by have r1 := r.1; rw [c] at r1; exact r1.inj' e
      simp [c, c']
    · have c' : ¬ x.1 = j := fun z => c (by have r1 := r.1; rw [z] at r1; exact r1.inj e)
      simp only [List.any_cons, decide_eq_false c, decide_eq_false c', Bool.false_or, ih]
theorem Kv.put {kvs : List (PV × PV)} {xs : List (Key × Value)} {k v : PV} {j : Key} {u : Value} {x : V} (r : Paired (KvR g ms H) kvs xs) (e : PkR k j) (rv : g.Rp H ms v x) (ru : RelV x u) : Paired (KvR g ms H) (dput kvs k v) (stored xs j u) := by
  unfold dput stored
  rw [Kv.any r e]
  split
  · rename_i hq
    clear hq
    induction r with
    | nil => exact .nil
    | @cons kv x kvs xs r t ih =>
      refine .cons ?_ ih
      by_cases c : kv.1 = k
      · have c' : x.1 = j := by have r1 := r.1; rw [c] at r1; exact r1.inj' e
        dsimp only
        rw [if_pos c, if_pos c']
        exact ⟨r.1, _, rv, ru⟩
      · have c' : ¬ x.1 = j := fun z => c (by have r1 := r.1; rw [z] at r1; exact r1.inj e)
        dsimp only
        rw [if_neg c, if_neg c']
        exact r
  · exact Paired.snoc r ⟨e, _, rv, ru⟩
theorem Kv.del {kvs : List (PV × PV)} {xs : List (Key × Value)} {k : PV} {j : Key} (r : Paired (KvR g ms H) kvs xs) (e : PkR k j) : Paired (KvR g ms H) (ddel kvs k) (without xs j) := by
  unfold ddel without
  induction r with
  | nil => exact .nil
  | @cons kv x kvs xs r t ih =>
    rw [List.filter_cons, List.filter_cons]
    by_cases c : kv.1 = k
    · have c' : x.1 = j := by have r1 := r.1; rw [c] at r1; exact r1.inj' e
      rw [if_neg (by simp [c]), if_neg (by simp [c'])]
      exact ih
    · have c' : ¬ x.1 = j := fun z => c (by have r1 := r.1; rw [z] at r1; exact r1.inj e)
      rw [if_pos (by simp [c]), if_pos (by simp [c'])]
      exact .cons r ih

end
/-! ### one dict of ours -/
section
variable {X : Cx} {g : Gm} {lk : Addr → Option Obj} {ms : List Addr} {h : PH} {H : Hp} {l : Nat} {a : Addr} {pins : List (Addr × Obj)} {s : Shared} {σ : L2.St} {kvs : List (PV × PV)} {n : Nat}
/-- the dict at l, its address and object in the machine's heap -/
structure Dc (X : Cx) (g : Gm) (lk : Addr → Option Obj) (ms : List Addr) (H : Hp) (s : Shared) (l : Nat) (a : Addr) (kvs : List (PV × PV)) (n : Nat) (o : Obj) (es : Array DictEntry) (ep : Nat) : Prop where
  at_ : ms[l]? = some a
  z : kvs.length ≤ sizeLine
  ns : (a == sysModules) = false
  nd : (kvs.map (·.1)).Nodup
  un : uniK kvs
  ho : H a = some (AtO a o)
  get : s.heap.get? a = some o
  ex : o.ExactDict
  da : o.data = .dict es ep
  en : Paired (EnR g.w g.K g.px H ms) kvs es.toList
  lo : ∀ o', lk a = some o' → o' = o ∧ 0 < n
theorem HR.dct (hR : g.HR lk ms h H) (I : L2.Inv X pins σ H s) (e : h[l]? = some (.dct kvs n)) : ∃ a o es ep, Dc X g lk ms H s l a kvs n o es ep := by
  obtain ⟨a, e1, ⟨z, ns, nd, un⟩, o, es, ep, ho, ex, da, en, lo⟩ := hR.obj l _ e
  obtain ⟨q, _⟩ : ObjOk X.prog X.w H s.heap a (AtO a o) := I.hok a _ ho
  exact ⟨a, o, es, ep, e1, z, ns, nd, un, ho, q, ex, da, en, lo⟩
variable {o : Obj} {es : Array DictEntry} {ep : Nat}
theorem Dc.ref (D : Dc X g lk ms H s l a kvs n o es ep) {v : V} (r : g.Rp H ms (.ref l) v) : v = .ref a := Rp.ref_at r D.at_
theorem Dc.tups (D : Dc X g lk ms H s l a kvs n o es ep) (I : L2.Inv X pins σ H s) (hK : X.K = g.K) (hw : X.w = g.w) (ht : ∀ p ∈ kvs, tupK p.1 = true) : ∃ xs, Paired (XsR g ms H) kvs xs ∧ s.heap.DictOfH (nestedKind X.prog X.w) a xs := by
  obtain ⟨xs, p, q⟩ := tup_xs (P := X.prog) D.en ht
  refine ⟨xs, p, o, es, ep, D.get, D.ex, D.da, by rw [hw]; exact q, ?_, Xs.keys_inj p D.nd⟩
  have : ∀ {kvs : List (PV × PV)} {xs : List (NestedKey × Addr × Value)}, Paired (XsR g ms H) kvs xs → ∀ x ∈ xs, (nestedKind X.prog X.w).is s.heap x.1 x.2.1 := by
    intro kvs xs r
    induction r with
    | nil => intro y e; cases e
    | cons r t ih =>
      intro y e
      rcases List.mem_cons.mp e with rfl | e
      · exact ⟨nest_of I hK r.2.2.1 r.1 rfl, r.2.1⟩
      · exact ih y e
  exact this p
theorem Dc.leafs (D : Dc X g lk ms H s l a kvs n o es ep) (hw : X.w = g.w) (ht : ∀ p ∈ kvs, tupK p.1 = false) : ∃ xs, Paired (KvR g ms H) kvs xs ∧ s.heap.DictOf (mixKind X.prog X.w) a xs := by
  obtain ⟨xs, p, q, r⟩ := leaf_xs (P := X.prog) D.en ht
  exact ⟨xs, p, o, es, ep, D.get, D.ex, D.da, fun e he => by rw [hw]; exact r e (by simpa using he), by rw [hw]; exact q, Kv.nodup p D.nd⟩
/-- what fitK says -/
theorem fit_of {k : PV} (un : uniK kvs) (e : fitK kvs k = true) : (∃ nk, nkey k = some nk ∧ nk.depth ≤ 8) ∧ ((tupK k = true ∧ ∀ p ∈ kvs, tupK p.1 = true) ∨ (tupK k = false ∧ ∀ p ∈ kvs, tupK p.1 = false)) := by
  unfold fitK okKey at e
  rw [Bool.and_eq_true] at e
  obtain ⟨e1, e2⟩ := e
  refine ⟨?_, ?_⟩
  · split at e1
    · rename_i nk q; exact ⟨nk, q, of_decide_eq_true e1⟩
    · cases e1
  · cases kvs with
    | nil =>
      cases tupK k with
      | true => exact .inl ⟨rfl, fun _ z => nomatch z⟩
      | false => exact .inr ⟨rfl, fun _ z => nomatch z⟩
    | cons p r =>
      have e3 : tupK p.1 = tupK k := by simpa using e2
      rcases un with u | u
      · exact .inl ⟨by rw [← e3]; exact u p List.mem_cons_self, u⟩
      · exact .inr ⟨by rw [← e3]; exact u p List.mem_cons_self, u⟩
/-- a lookup by values -/
abbrev LookR (g : Gm) (ms : List Addr) (H : Hp) (p : Option PV) (u : Option Value) : Prop := match p, u with
  | none, none => True
  | some p, some u => ∃ v, g.Rp H ms p v ∧ RelV v u
  | _, _ => False
theorem LookR.iso {p : Option PV} {u : Option Value} (r : LookR g ms H p u) : p.isSome = u.isSome := by
  cases p <;> cases u <;> first | rfl | exact r.elim
theorem room8 {A : Around} (hu : A.units + 64 < cLine) : (nestedKind X.prog X.w).room A.in1 := by
  show A.units + 1 + 8 < cLine
  omega
/-- both ways of reading a dict at a key -/
theorem Dc.look (D : Dc X g lk ms H s l a kvs n o es ep) (I : L2.Inv X pins σ H s) (hK : X.K = g.K) (hw : X.w = g.w) {k : PV} {v : V} {u : Value} (rk : g.Rp H ms k v) (ru : RelV v u) (e : fitK kvs k = true) :
    (∃ nk b xs, nkey k = some nk ∧ nk.depth ≤ 8 ∧ v = .ref b ∧ u = .ref b ∧ tupK k = true ∧ (∀ p ∈ kvs, tupK p.1 = true) ∧ (nestedKind X.prog X.w).is s.heap nk b ∧ Paired (XsR g ms H) kvs xs ∧ s.heap.DictOfH (nestedKind X.prog X.w) a xs ∧ LookR g ms H (dget kvs k) ((atKey xs nk).map (·.2))) ∨
    (∃ j xs, PkR k j ∧ tupK k = false ∧ (∀ p ∈ kvs, tupK p.1 = false) ∧ (mixKind X.prog X.w).is j u = true ∧ Paired (KvR g ms H) kvs xs ∧ s.heap.DictOf (mixKind X.prog X.w) a xs ∧ LookR g ms H (dget kvs k) (valueAt xs j)) := by
  obtain ⟨⟨nk, h1, h2⟩, ⟨t1, t2⟩ | ⟨t1, t2⟩⟩ := fit_of D.un e
  · obtain ⟨xs, p, d⟩ := D.tups I hK hw t2
    cases k with
    | tup ys =>
      obtain ⟨b, vs, rfl, s1, s2⟩ := rk.tup_of
      cases ru
      exact .inl ⟨nk, b, xs, h1, h2, rfl, rfl, t1, t2, ⟨nest_of I hK rk h1 rfl, h2⟩, p, d, Xs.get p h1⟩
    | _ => exact absurd t1 Bool.false_ne_true
  · obtain ⟨xs, p, d⟩ := D.leafs hw t2
    obtain ⟨j, hj⟩ := pk_of h1 t1
    exact .inr ⟨j, xs, hj, t1, t2, by rw [hw]; exact pk_is hj rk ru, p, d, Kv.get p hj⟩
theorem ok_in_dct (hK : X.K = g.K) (hw : X.w = g.w) (hu : X.A.units + 64 < cLine) {k : PV} {x : V} {v : Value} {Q : VK} (hR : g.HR lk ms h H) (I : L2.Inv X pins σ H s) (e : h[l]? = some (.dct kvs n)) (rk : g.Rp H ms k x) (rx : RelV x v) {y : V} {u : Value} (rl : g.Rp H ms (.ref l) y) (ry : RelV y u) (f : fitK kvs k = true) (neg : Bool)
    (q : Q (.bl (if neg then !(dget kvs k).isSome else (dget kvs k).isSome)) H) : wpAny (model X.prog X.w) X.A (compareOp (if neg then .NotIn else .In) v u) (EP X pins σ Q) X.xe s := by
  obtain ⟨a, o, es, ep, D⟩ := HR.dct hR I e
  have ey := D.ref rl
  subst ey
  cases ry
  rcases D.look I hK hw rk rx f with ⟨nk, b, xs, h1, h2, rfl, rfl, _, _, his, p, d, lr⟩ | ⟨j, xs, hj, _, _, his, p, d, lr⟩
  · cases neg with
    | true => exact wpAny_notIn_heap (room8 hu) his D.ns d ⟨.bl _, H, I.tok _, rfl, by rw [← Option.isSome_map (f := fun x => x.2), ← LookR.iso lr]; exact q⟩
    | false => exact wpAny_in_heap (room8 hu) his D.ns d ⟨.bl _, H, I.tok _, rfl, by rw [← Option.isSome_map (f := fun x => x.2), ← LookR.iso lr]; exact q⟩
  · cases neg with
    | true => exact wpAny_notIn_of his D.ns d.mapOf ⟨.bl _, H, I.tok _, rfl, by rw [← LookR.iso lr]; exact q⟩
    | false => exact wpAny_in_of his D.ns d.mapOf ⟨.bl _, H, I.tok _, rfl, by rw [← LookR.iso lr]; exact q⟩

/-- the dict at l is changed by a rule of the machine -/
theorem HR.putD {kvs' : List (PV × PV)} {o' : Obj} {es' : Array DictEntry} {ep' : Nat} (hR : g.HR lk ms h H) (D : Dc X g lk ms H s l a kvs 0 o es ep) (z : kvs'.length ≤ sizeLine) (nd : (kvs'.map (·.1)).Nodup) (un : uniK kvs') (ex : o'.ExactDict) (da : o'.data = .dict es' ep') (en : Paired (EnR g.w g.K g.px H ms) kvs' es'.toList) :
    Keep ms H ms (upd H a (AtO a o')) ∧ g.HR lk ms (h.set l (.dct kvs' 0)) (upd H a (AtO a o')) := by
  have nl : lk a = none := by
    cases q : lk a with
    | none => rfl
    | some o1 => exact absurd (D.lo o1 q).2 (Nat.lt_irrefl _)
  refine hR.put (u := AtO a o') D.at_ nl fun k => ⟨⟨z, D.ns, nd, un⟩, o', es', ep', upd_same, ex, da, Paired.mapP en fun _ _ ⟨a1, ⟨v, b1, b2⟩, ⟨u, c1, c2⟩⟩ => ⟨a1, ⟨v, Rp.ext hR k b1, b2⟩, ⟨u, Rp.ext hR k c1, c2⟩⟩, fun o1 q => by rw [nl] at q; cases q⟩
/-- .. and the machine's state stands over it -/
theorem Inv.putD {o' : Obj} {h' : Heap} {t' : Nat} (I : L2.Inv X pins σ H s) (D : Dc X g lk ms H s l a kvs 0 o es ep) (hs : Heap.SameBut a s.heap h') (e : h'.get? a = some o') : L2.Inv X pins σ (upd H a (AtO a o')) { s with heap := h', toks := t' } :=
  I.write (x := a) (e := a) (o := AtO a o') (by rw [D.ho]; trivial) (.inl rfl) (fun b u hb q => (hs.2 b hb).trans q) ⟨_, e⟩ ⟨e, ⟨_, e⟩, fun h1 h2 q1 q2 => q2 _ q1⟩
theorem keys_put {kvs : List (PV × PV)} {k v : PV} (nd : (kvs.map (·.1)).Nodup) : ((dput kvs k v).map (·.1)).Nodup := by
  unfold dput
  split
  · have : (kvs.map fun p => if p.1 = k then (p.1, v) else p).map (·.1) = kvs.map (·.1) := by
      rw [List.map_map]
      refine List.map_congr_left fun p _ => ?_
      dsimp only [Function.comp]
      split <;> rfl
    rw [this]
    exact nd
  · rename_i q
    rw [List.map_append, List.nodup_append]
    refine ⟨nd, by simp, fun a m b m' => ?_⟩
    simp at m'
    subst m'
    intro z
    subst z
    obtain ⟨p, hp, e⟩ := List.mem_map.mp m
    exact q (List.any_eq_true.mpr ⟨p, hp, decide_eq_true e⟩)
theorem uni_put {kvs : List (PV × PV)} {k v : PV} (t : (tupK k = true ∧ ∀ p ∈ kvs, tupK p.1 = true) ∨ (tupK k = false ∧ ∀ p ∈ kvs, tupK p.1 = false)) : uniK (dput kvs k v) := by
  have mem : ∀ p ∈ dput kvs k v, p.1 = k ∨ ∃ q ∈ kvs, q.1 = p.1 := by
    intro p hp
    unfold dput at hp
    split at hp
    · obtain ⟨q, hq, e⟩ := List.mem_map.mp hp
      right
      refine ⟨q, hq, ?_⟩
      rw [← e]
      split <;> rfl
    · rcases List.mem_append.mp hp with hp | hp
      · exact .inr ⟨p, hp, rfl⟩
      · simp at hp; left; rw [hp]
  rcases t with ⟨t1, t2⟩ | ⟨t1, t2⟩
  · left
    intro p hp
    rcases mem p hp with e | ⟨q, hq, e⟩
    · rw [e]; exact t1
    · rw [← e]; exact t2 q hq
  · right
    intro p hp
    rcases mem p hp with e | ⟨q, hq, e⟩
    · rw [e]; exact t1
    · rw [← e]; exact t2 q hq
theorem length_put (kvs : List (PV × PV)) (k v : PV) : (dput kvs k v).length ≤ kvs.length + 1 := by
  unfold dput
  split
  · rw [List.length_map]; omega
  · simp
/-- d[k] = v -/
theorem ok_dset (hK : X.K = g.K) (hw : X.w = g.w) (hu : X.A.units + 64 < cLine) {k p : PV} {x y z : V} {v u r : Value} {Q : Hp → Prop} (hR : g.HR lk ms h H) (I : L2.Inv X pins σ H s) (e : h[l]? = some (.dct kvs 0)) (rl : g.Rp H ms (.ref l) x) (rx : RelV x v) (rk : g.Rp H ms k y) (ry : RelV y u) (rp : g.Rp H ms p z) (rz : RelV z r)
    (f : fitK kvs k = true) (hz : kvs.length < sizeLine) (q : ∀ ms' H', Keep ms H ms' H' → g.HR lk ms' (h.set l (.dct (dput kvs k p) 0)) H' → Q H') :
    wpAny (model X.prog X.w) X.A (setItem v u r) (fun _ s' => ∃ H', L2.Inv X pins σ H' s' ∧ Q H') X.xe s := by
  obtain ⟨a, o, es, ep, D⟩ := HR.dct hR I e
  have ey := D.ref rl
  subst ey
  cases rx
  have tt := (fit_of D.un f).2
  have z2 := length_put kvs k p
  rcases D.look I hK hw rk ry f with ⟨nk, b, xs, h1, h2, rfl, rfl, _, _, his, pr, d, lr⟩ | ⟨j, xs, hj, _, _, his, pr, d, lr⟩
  · refine wpAny_setItem_heap (room8 hu) his d (fun h' hm' hs => ?_) (by rw [← Paired.length pr]; omega)
    obtain ⟨o', es', ep', g1, g2, g3, g4, g5, g6⟩ := hm'
    have pr' := Xs.put pr h1 h2 rk rp rz
    have en' := xs_en (P := X.prog) pr'
    obtain ⟨k1, hR'⟩ := HR.putD (kvs' := dput kvs k p) hR D (by omega) (keys_put D.nd) (uni_put tt) g2 g3 (by rw [g4]; rw [hw]; exact en')
    exact ⟨_, Inv.putD I D hs g1, q _ _ k1 hR'⟩
  · refine wpAny_setItem_pairs his d (fun h' hm' hs => ?_) (by rw [← Paired.length pr]; omega)
    obtain ⟨o', es', ep', g1, g2, g3, g4, g5, g6⟩ := hm'
    have pr' := Kv.put pr hj rp rz
    have en' := leaf_en (P := X.prog) pr' (by rw [← hw]; exact g5) (fun e he => by rw [← hw]; exact g4 e (by simpa using he))
    obtain ⟨k1, hR'⟩ := HR.putD (kvs' := dput kvs k p) hR D (by omega) (keys_put D.nd) (uni_put tt) g2 g3 en'
    exact ⟨_, Inv.putD I D hs g1, q _ _ k1 hR'⟩
/-- d[k] -/
theorem ok_dgetI (hK : X.K = g.K) (hw : X.w = g.w) (hu : X.A.units + 64 < cLine) {k p : PV} {x y : V} {v u : Value} {Q : VK} (hR : g.HR lk ms h H) (I : L2.Inv X pins σ H s) (e : h[l]? = some (.dct kvs n)) (rl : g.Rp H ms (.ref l) x) (rx : RelV x v) (rk : g.Rp H ms k y) (ry : RelV y u)
    (f : fitK kvs k = true) (hp : dget kvs k = some p) (q : ∀ w, g.Rp H ms p w → Q w H) : wpAny (model X.prog X.w) X.A (getItem v u) (EP X pins σ Q) X.xe s := by
  obtain ⟨a, o, es, ep, D⟩ := HR.dct hR I e
  have ey := D.ref rl
  subst ey
  cases rx
  rcases D.look I hK hw rk ry f with ⟨nk, b, xs, h1, h2, rfl, rfl, _, _, his, pr, d, lr⟩ | ⟨j, xs, hj, _, _, his, pr, d, lr⟩
  · rw [hp] at lr
    cases hc : atKey xs nk with
    | none => rw [hc] at lr; exact lr.elim
    | some c =>
      rw [hc] at lr
      obtain ⟨w', r1, r2⟩ := lr
      exact wpAny_getItem_heap (room8 hu) his d hc ⟨w', H, I.tok _, r2, q w' r1⟩
  · rw [hp] at lr
    cases hc : valueAt xs j with
    | none => rw [hc] at lr; exact lr.elim
    | some c =>
      rw [hc] at lr
      obtain ⟨w', r1, r2⟩ := lr
      exact wpAny_getItem_of his d.mapOf hc ⟨w', H, I.tok _, r2, q w' r1⟩

/-- d.get(k), d.get(k, x) -/
theorem ok_dget1 (hK : X.K = g.K) (hw : X.w = g.w) (hu : X.A.units + 64 < cLine) {k : PV} {x y : V} {v u : Value} {Q : VK} (hR : g.HR lk ms h H) (I : L2.Inv X pins σ H s) (e : h[l]? = some (.dct kvs n)) (rl : g.Rp H ms (.ref l) x) (rx : RelV x v) (rk : g.Rp H ms k y) (ry : RelV y u)
    (f : fitK kvs k = true) (q : ∀ w, g.Rp H ms ((dget kvs k).getD .non) w → Q w H) : wpAny (model X.prog X.w) X.A (call (.builtin "dict.get") [v, u]) (EP X pins σ Q) X.xe s := by
  obtain ⟨a, o, es, ep, D⟩ := HR.dct hR I e
  have ey := D.ref rl
  subst ey
  cases rx
  rcases D.look I hK hw rk ry f with ⟨nk, b, xs, h1, h2, rfl, rfl, _, _, his, pr, d, lr⟩ | ⟨j, xs, hj, _, _, his, pr, d, lr⟩
  · refine call_meetsIn PySem.F.slot_dict_get d.typeIs PySem.F.entry_dict_get (PySem.F.args_dict_get_2 _ _) (meetsH_dict_get (nestedKind X.prog X.w) a b D.ns) ⟨room8 hu, nk, xs, his, d, ?_⟩
    cases hp : dget kvs k with
    | none =>
      rw [hp] at lr q
      cases hc : (atKey xs nk).map (·.2) with
      | none => exact ⟨.non, H, I.tok _, rfl, q _ .non⟩
      | some c => rw [hc] at lr; exact lr.elim
    | some p =>
      rw [hp] at lr q
      cases hc : (atKey xs nk).map (·.2) with
      | none => rw [hc] at lr; exact lr.elim
      | some c => rw [hc] at lr; obtain ⟨w', r1, r2⟩ := lr; exact ⟨w', H, I.tok _, r2, q w' r1⟩
  · refine call_meetsIn PySem.F.slot_dict_get d.typeIs PySem.F.entry_dict_get (PySem.F.args_dict_get_2 _ _) (meets_dict_get (mixKind X.prog X.w) a his D.ns) ⟨_, d.mapOf, ?_⟩
    cases hp : dget kvs k with
    | none =>
      rw [hp] at lr q
      cases hc : valueAt xs j with
      | none => exact ⟨.non, H, I.tok _, rfl, q _ .non⟩
      | some c => rw [hc] at lr; exact lr.elim
    | some p =>
      rw [hp] at lr q
      cases hc : valueAt xs j with
      | none => rw [hc] at lr; exact lr.elim
      | some c => rw [hc] at lr; obtain ⟨w', r1, r2⟩ := lr; exact ⟨w', H, I.tok _, r2, q w' r1⟩
theorem ok_dget2 (hK : X.K = g.K) (hw : X.w = g.w) (hu : X.A.units + 64 < cLine) {k p0 : PV} {x y z : V} {v u r : Value} {Q : VK} (hR : g.HR lk ms h H) (I : L2.Inv X pins σ H s) (e : h[l]? = some (.dct kvs n)) (rl : g.Rp H ms (.ref l) x) (rx : RelV x v) (rk : g.Rp H ms k y) (ry : RelV y u) (rp : g.Rp H ms p0 z) (rz : RelV z r)
    (f : fitK kvs k = true) (q : ∀ w, g.Rp H ms ((dget kvs k).getD p0) w → Q w H) : wpAny (model X.prog X.w) X.A (call (.builtin "dict.get") [v, u, r]) (EP X pins σ Q) X.xe s := by
  obtain ⟨a, o, es, ep, D⟩ := HR.dct hR I e
  have ey := D.ref rl
  subst ey
  cases rx
  rcases D.look I hK hw rk ry f with ⟨nk, b, xs, h1, h2, rfl, rfl, _, _, his, pr, d, lr⟩ | ⟨j, xs, hj, _, _, his, pr, d, lr⟩
  · refine call_meetsIn PySem.F.slot_dict_get d.typeIs PySem.F.entry_dict_get (PySem.F.args_dict_get_3 _ _ _) (meetsH_dict_get_default (nestedKind X.prog X.w) a b D.ns r) ⟨room8 hu, nk, xs, his, d, ?_⟩
    cases hp : dget kvs k with
    | none =>
      rw [hp] at lr q
      cases hc : (atKey xs nk).map (·.2) with
      | none => exact ⟨z, H, I.tok _, rz, q _ rp⟩
      | some c => rw [hc] at lr; exact lr.elim
    | some p =>
      rw [hp] at lr q
      cases hc : (atKey xs nk).map (·.2) with
      | none => rw [hc] at lr; exact lr.elim
      | some c => rw [hc] at lr; obtain ⟨w', r1, r2⟩ := lr; exact ⟨w', H, I.tok _, r2, q w' r1⟩
  · refine call_meetsIn PySem.F.slot_dict_get d.typeIs PySem.F.entry_dict_get (PySem.F.args_dict_get_3 _ _ _) (meets_dict_get_default (mixKind X.prog X.w) a his D.ns r) ⟨_, d.mapOf, ?_⟩
    cases hp : dget kvs k with
    | none =>
      rw [hp] at lr q
      cases hc : valueAt xs j with
      | none => exact ⟨z, H, I.tok _, rz, q _ rp⟩
      | some c => rw [hc] at lr; exact lr.elim
    | some p =>
      rw [hp] at lr q
      cases hc : valueAt xs j with
      | none => rw [hc] at lr; exact lr.elim
      | some c => rw [hc] at lr; obtain ⟨w', r1, r2⟩ := lr; exact ⟨w', H, I.tok _, r2, q w' r1⟩
theorem keys_del {kvs : List (PV × PV)} {k : PV} (nd : (kvs.map (·.1)).Nodup) : ((ddel kvs k).map (·.1)).Nodup := List.Sublist.nodup (List.Sublist.map _ List.filter_sublist) nd
theorem uni_del {kvs : List (PV × PV)} {k : PV} (u : uniK kvs) : uniK (ddel kvs k) := u.imp (fun t p hp => t p ((List.mem_filter.mp hp).1)) (fun t p hp => t p ((List.mem_filter.mp hp).1))
/-- d.setdefault(k, x) -/
theorem ok_dsetdef (hK : X.K = g.K) (hw : X.w = g.w) (hu : X.A.units + 64 < cLine) {k p : PV} {x y z : V} {v u r : Value} {Q : VK} (hR : g.HR lk ms h H) (I : L2.Inv X pins σ H s) (e : h[l]? = some (.dct kvs 0)) (rl : g.Rp H ms (.ref l) x) (rx : RelV x v) (rk : g.Rp H ms k y) (ry : RelV y u) (rp : g.Rp H ms p z) (rz : RelV z r)
    (f : fitK kvs k = true) (ht : tupK k = true) (hz : kvs.length < sizeLine) (q1 : ∀ p', dget kvs k = some p' → ∀ w, g.Rp H ms p' w → Q w H) (q2 : dget kvs k = none → ∀ ms' H' w, Keep ms H ms' H' → g.HR lk ms' (h.set l (.dct (kvs ++ [(k, p)]) 0)) H' → g.Rp H' ms' p w → Q w H') :
    wpAny (model X.prog X.w) X.A (call (.builtin "dict.setdefault") [v, u, r]) (EP X pins σ Q) X.xe s := by
  obtain ⟨a, o, es, ep, D⟩ := HR.dct hR I e
  have ey := D.ref rl
  subst ey
  cases rx
  have tt := (fit_of D.un f).2
  have z2 := length_put kvs k p
  rcases D.look I hK hw rk ry f with ⟨nk, b, xs, h1, h2, rfl, rfl, _, _, his, pr, d, lr⟩ | ⟨j, xs, hj, t1, _, his, pr, d, lr⟩
  · refine call_setdefault_heap (room8 hu) his D.ns d (fun c hc => ?_) (fun hc h' hm' hs => ?_) (by rw [← Paired.length pr]; omega)
    · rw [hc] at lr
      cases hp : dget kvs k with
      | none => rw [hp] at lr; exact lr.elim
      | some p' => rw [hp] at lr; obtain ⟨w', r1, r2⟩ := lr; exact ⟨w', H, I.tok _, r2, q1 p' hp w' r1⟩
    · rw [hc] at lr
      cases hp : dget kvs k with
      | some p' => rw [hp] at lr; exact lr.elim
      | none =>
        obtain ⟨o', es', ep', g1, g2, g3, g4, g5, g6⟩ := hm'
        have pr' := Xs.put pr h1 h2 rk rp rz
        have en' := xs_en (P := X.prog) pr'
        have ed : dput kvs k p = kvs ++ [(k, p)] := by
          unfold dput
          rw [if_neg]
          intro ha
          obtain ⟨c, hc1, hc2⟩ := List.any_eq_true.mp ha
          unfold dget at hp
          rw [Option.map_eq_none_iff, List.find?_eq_none] at hp
          exact hp c hc1 hc2
        obtain ⟨k1, hR'⟩ := HR.putD (kvs' := dput kvs k p) hR D (by omega) (keys_put D.nd) (uni_put tt) g2 g3 (by rw [g4]; rw [hw]; exact en')
        rw [ed] at hR'
        exact ⟨z, _, Inv.putD I D hs g1, rz, q2 hp _ _ _ k1 hR' (Rp.ext hR k1 rp)⟩
  · rw [ht] at t1; cases t1
/-- d.pop(k) -/
theorem ok_dpop1 (hK : X.K = g.K) (hw : X.w = g.w) (hu : X.A.units + 64 < cLine) {k p : PV} {x y : V} {v u : Value} {Q : VK} (hR : g.HR lk ms h H) (I : L2.Inv X pins σ H s) (e : h[l]? = some (.dct kvs 0)) (rl : g.Rp H ms (.ref l) x) (rx : RelV x v) (rk : g.Rp H ms k y) (ry : RelV y u)
    (f : fitK kvs k = true) (ht : tupK k = true) (hp : dget kvs k = some p) (q : ∀ ms' H' w, Keep ms H ms' H' → g.HR lk ms' (h.set l (.dct (ddel kvs k) 0)) H' → g.Rp H' ms' p w → Q w H') :
    wpAny (model X.prog X.w) X.A (call (.builtin "dict.pop") [v, u]) (EP X pins σ Q) X.xe s := by
  obtain ⟨a, o, es, ep, D⟩ := HR.dct hR I e
  have ey := D.ref rl
  subst ey
  cases rx
  rcases D.look I hK hw rk ry f with ⟨nk, b, xs, h1, h2, rfl, rfl, _, _, his, pr, d, lr⟩ | ⟨j, xs, hj, t1, _, his, pr, d, lr⟩
  · rw [hp] at lr
    cases hc : atKey xs nk with
    | none => rw [hc] at lr; exact lr.elim
    | some c =>
      rw [hc] at lr
      obtain ⟨w', r1, r2⟩ := lr
      refine call_pop_heap (more := []) (.inl rfl) (PySem.F.args_dict_pop_2 _ _) (room8 hu) his D.ns d hc (fun h' hm' hs => ?_) (by rw [← Paired.length pr]; exact D.z)
      obtain ⟨o', es', ep', g1, g2, g3, g4, g5, g6⟩ := hm'
      have pr' := Xs.del pr h1
      have en' := xs_en (P := X.prog) pr'
      obtain ⟨k1, hR'⟩ := HR.putD (kvs' := ddel kvs k) hR D (Nat.le_trans (List.length_filter_le _ _) D.z) (keys_del D.nd) (uni_del D.un) g2 g3 (by rw [g4]; rw [hw]; exact en')
      exact ⟨w', _, Inv.putD I D hs g1, r2, q _ _ _ k1 hR' (Rp.ext hR k1 r1)⟩
  · rw [ht] at t1; cases t1

/-! ### new dicts, d.update(e) -/
theorem at_ok {P : Program} {w : World} {H : Hp} {h : Heap} {a : Addr} {o : Obj} (e : h.get? a = some o) : ObjOk P w H h a (AtO a o) := ⟨e, ⟨_, e⟩, fun h1 h2 q1 q2 => q2 _ q1⟩
abbrev noD : Obj := { cls := .type "dict", data := .dict #[] }
/-- a dict that the machine has made, at p, is ours from now on -/
theorem HR.newD {p : Addr} {kvs : List (PV × PV)} {o1 o' : Obj} {es' : Array DictEntry} {ep' : Nat} (hR : g.HR lk ms h H) (hp : H p = some (AtO p o1)) (np : p ∉ ms) (ns : (p == sysModules) = false) (z : kvs.length ≤ sizeLine) (nd : (kvs.map (·.1)).Nodup) (un : uniK kvs) (ex : o'.ExactDict) (da : o'.data = .dict es' ep') (en : Paired (EnR g.w g.K g.px H ms) kvs es'.toList) :
    ∀ ms0 H0, Keep ms0 H0 ms H → H0 p = none → Keep ms0 H0 (ms ++ [p]) (upd H p (AtO p o')) ∧ g.HR lk (ms ++ [p]) (h ++ [.dct kvs 0]) (upd H p (AtO p o')) ∧ g.Rp (upd H p (AtO p o')) (ms ++ [p]) (.ref h.length) (.ref p) := by
  intro ms0 H0 k0 np0
  have nl : lk p = none := by
    cases q : lk p with
    | none => rfl
    | some o1 =>
      obtain ⟨l, _, _, e1, _⟩ := hR.lks p o1 q
      exact absurd (List.mem_of_getElem? e1) np
  have ko : Keep ms0 H0 (ms ++ [p]) (upd H p (AtO p o')) := ⟨k0.1.trans (List.prefix_append _ _), fun a u e n => by
    obtain ⟨h1, h2⟩ := k0.2 a u e n
    have ne : a ≠ p := fun z => by rw [z, np0] at e; cases e
    exact ⟨by rw [upd_ne ne]; exact h1, fun m => by
      rcases List.mem_append.mp m with m | m
      · exact h2 m
      · exact ne (List.mem_singleton.mp m)⟩⟩
  -- the relation: everything but p stands; tuples of ours are not p
  have tup : ∀ {a : Addr} {vs : List V}, SqT g.K H a vs → SqT g.K (upd H p (AtO p o')) a vs := fun {a vs} s => by
    rcases s with (s | ⟨o, s⟩) | s
    · exact .inl (.inl (by rw [upd_ne (by rintro rfl; rw [hp] at s; cases s)]; exact s))
    · exact .inl (.inr ⟨o, by rw [upd_ne (by rintro rfl; rw [hp] at s; cases s)]; exact s⟩)
    · exact .inr s
  have at_ : ∀ {l : Nat} {a : Addr}, ms[l]? = some a → (ms ++ [p])[l]? = some a := fun {l a} e => by
    rw [List.getElem?_append_left (List.getElem?_eq_some_iff.mp e).1]; exact e
  have rol : ∀ {a : Addr} {vs : List V}, RoL g.K H ms a vs → RoL g.K (upd H p (AtO p o')) (ms ++ [p]) a vs := fun {a vs} s => by
    rcases s with ⟨⟨o, s⟩, n⟩ | s
    · have ne : a ≠ p := by rintro rfl; rw [hp] at s; cases s
      refine .inl ⟨⟨o, (upd_ne ne).trans s⟩, fun m => ?_⟩
      rcases List.mem_append.mp m with m | m
      · exact n m
      · exact ne (List.mem_singleton.mp m)
    · exact .inr s
  have rp : ∀ {q : PV} {v : V}, g.Rp H ms q v → g.Rp (upd H p (AtO p o')) (ms ++ [p]) q v := by
    intro q v r
    refine Z.Rp.rec (motive_1 := fun q v _ => g.Rp (upd H p (AtO p o')) (ms ++ [p]) q v) (motive_2 := fun q v _ => g.Rps (upd H p (AtO p o')) (ms ++ [p]) q v) .non .bl .int .str (fun s _ ih => .tup (tup s) ih) (fun e => .ref (at_ e)) (fun e => .exc e) (fun s _ ih => .ro (rol s) ih) .nil (fun _ _ i1 i2 => .cons i1 i2) r
  have rps : ∀ {q : List PV} {v : List V}, g.Rps H ms q v → g.Rps (upd H p (AtO p o')) (ms ++ [p]) q v := by
    intro q v r
    refine Z.Rps.rec (motive_1 := fun q v _ => g.Rp (upd H p (AtO p o')) (ms ++ [p]) q v) (motive_2 := fun q v _ => g.Rps (upd H p (AtO p o')) (ms ++ [p]) q v) .non .bl .int .str (fun s _ ih => .tup (tup s) ih) (fun e => .ref (at_ e)) (fun e => .exc e) (fun s _ ih => .ro (rol s) ih) .nil (fun _ _ i1 i2 => .cons i1 i2) r
  have enm : ∀ {kvs : List (PV × PV)} {es : List DictEntry}, Paired (EnR g.w g.K g.px H ms) kvs es → Paired (EnR g.w g.K g.px (upd H p (AtO p o')) (ms ++ [p])) kvs es := fun en => Paired.mapP en fun _ _ ⟨a1, ⟨v, b1, b2⟩, ⟨u, c1, c2⟩⟩ => ⟨a1, ⟨v, rp b1, b2⟩, ⟨u, rp c1, c2⟩⟩
  have he : (ms ++ [p])[h.length]? = some p := by rw [← hR.len]; simp
  refine ⟨ko, ⟨by simp [hR.len], ?_, fun l o e => ?_, fun a o e => let ⟨l, kvs, n, e1, e2, e3⟩ := hR.lks a o e; ⟨l, kvs, n, at_ e1, by rw [List.getElem?_append_left (List.getElem?_eq_some_iff.mp e2).1]; exact e2, e3⟩⟩, .ref he⟩
  · rw [List.nodup_append]
    exact ⟨hR.nd, by simp, fun a m b m' => by rw [List.mem_singleton.mp m']; exact fun z => np (z ▸ m)⟩
  · by_cases hl : l < h.length
    · rw [List.getElem?_append_left hl] at e
      obtain ⟨a, e1, y⟩ := hR.obj l o e
      have ma : a ∈ ms := List.mem_of_getElem? e1
      have ne : a ≠ p := fun z => np (z ▸ ma)
      refine ⟨a, at_ e1, ?_⟩
      cases o with
      | lst xs => obtain ⟨z, vs, q1, q2⟩ := y; exact ⟨z, vs, (upd_ne ne).trans q1, rps q2⟩
      | rol xs => obtain ⟨z, o, vs, q1, q2⟩ := y; exact ⟨z, o, vs, (upd_ne ne).trans q1, rps q2⟩
      | dct kvs n => obtain ⟨z, o, es, ep, q1, c, d, q2, l⟩ := y; exact ⟨z, o, es, ep, (upd_ne ne).trans q1, c, d, enm q2, l⟩
      | set xs => exact y
      | ins c fs =>
        obtain ⟨C, dx, gs, c1, q1, nd, z, q2⟩ := y
        refine ⟨C, dx, gs, c1, (upd_ne ne).trans q1, ?_, z, Paired.mapP q2 fun _ _ ⟨y, u⟩ => ⟨y, rp u⟩⟩
        rw [upd_ne (by rintro rfl; rw [hp] at nd; cases nd)]; exact nd
    · have hl2 : l = h.length := by
        have := (List.getElem?_eq_some_iff.mp e).1
        simp at this
        omega
      subst hl2
      rw [List.getElem?_append_right (Nat.le_refl _)] at e
      simp at e
      subst e
      exact ⟨p, he, ⟨z, ns, nd, un⟩, o', es', ep', upd_same, ex, da, enm en, fun o1 q => by rw [nl] at q; cases q⟩
theorem pe_dnew {W : WX} {G : Env} {pos : Pos} : PE X (.Dict [] [] pos) (tE g W (ev G (.dic []))) := by
  refine ⟨fun pins s σ H Q I hh => ?_⟩
  obtain ⟨lk, ms, σp, h, hR, sl, P⟩ := hh
  have e : ev G (.dic []) σp h = .ok (.ref h.length) (h ++ [.dct [] 0]) := by
    simp [ev, evs, Res.bind, dicV, evens, odds, ofO, dupd, sameK]
  rw [e] at P
  have np : H s.heap.objs.size = none := I.hok.fresh (Nat.le_refl _)
  have hg : (s.heap.push noD).get? s.heap.objs.size = some noD := Heap.get?_push_size _ rfl
  have I1 := I.laid (a := s.heap.objs.size) (o := AtO s.heap.objs.size noD) (h' := s.heap.push noD) (t' := s.toks) (fun _ _ q => Heap.get?_push_of_some _ q) (Nat.le_refl _) (at_ok hg)
  obtain ⟨k1, hR1⟩ := HR.beside (o := AtO s.heap.objs.size noD) hR np
  obtain ⟨k2, hR2, r2⟩ := HR.newD (kvs := []) (o' := noD) (es' := #[]) (ep' := 0) hR1 upd_same (HR.fresh hR np) (beq_eq_false_iff_ne.mpr (Ne.symm (Nat.ne_of_lt I.big))) (Nat.zero_le _) (by simp) (.inl fun _ z => nomatch z) ⟨rfl, rfl, rfl⟩ rfl .nil ms H k1 np
  rw [upd_upd] at hR2 r2 k2
  exact wpAny_Dict_empty ⟨.ref s.heap.objs.size, _, I1, rfl, P _ _ _ k2 hR2 r2⟩

theorem Xs.upd : ∀ {more kvs : List (PV × PV)} {ys xs : List (NestedKey × Addr × Value)}, Paired (XsR g ms H) more ys → Paired (XsR g ms H) kvs xs → (∀ p ∈ more, tupK p.1 = true) → Paired (XsR g ms H) (dupd kvs more) (storedAllH xs ys) := by
  intro more kvs ys xs r
  induction r generalizing kvs xs with
  | nil => intro q _; exact q
  | @cons p y ps ys h1 t ih =>
    intro q ht
    obtain ⟨e1, e2, e3, v, e4, e5⟩ := h1
    exact ih (Xs.put q e1 e2 e3 e4 e5) fun p hp => ht p (List.mem_cons_of_mem _ hp)
theorem keys_upd : ∀ {more kvs : List (PV × PV)}, (kvs.map (·.1)).Nodup → ((dupd kvs more).map (·.1)).Nodup
  | [], _, h => h
  | p :: r, kvs, h => keys_upd (more := r) (keys_put (k := p.1) (v := p.2) h)
theorem length_upd : ∀ (more kvs : List (PV × PV)), (dupd kvs more).length ≤ kvs.length + more.length
  | [], kvs => Nat.le_refl _
  | p :: r, kvs => by
    have h1 := length_upd r (dput kvs p.1 p.2)
    have h2 := length_put kvs p.1 p.2
    show (dupd (dput kvs p.1 p.2) r).length ≤ _
    rw [List.length_cons]; omega
theorem put_keys {kvs : List (PV × PV)} {k v : PV} {P : PV → Prop} (hk : P k) (h : ∀ p ∈ kvs, P p.1) : ∀ p ∈ dput kvs k v, P p.1 := by
  intro p hp
  unfold dput at hp
  split at hp
  · obtain ⟨q, hq, e⟩ := List.mem_map.mp hp
    rw [← e]
    split <;> exact h q hq
  · rcases List.mem_append.mp hp with hp | hp
    · exact h p hp
    · simp at hp; rw [hp]; exact hk
theorem upd_keys {P : PV → Prop} : ∀ {more kvs : List (PV × PV)}, (∀ p ∈ more, P p.1) → (∀ p ∈ kvs, P p.1) → ∀ p ∈ dupd kvs more, P p.1
  | [], _, _, h => h
  | p :: r, kvs, h1, h2 => upd_keys (more := r) (fun q hq => h1 q (List.mem_cons_of_mem _ hq)) (put_keys (h1 p List.mem_cons_self) h2)
theorem ok_dupd (hK : X.K = g.K) (hw : X.w = g.w) (hu : X.A.units + 64 < cLine) {m : Nat} {more : List (PV × PV)} {n' : Nat} {x y : V} {v u : Value} {Q : VK} (hR : g.HR lk ms h H) (I : L2.Inv X pins σ H s) (e : h[l]? = some (.dct kvs 0)) (e2 : h[m]? = some (.dct more n')) (hlm : l ≠ m)
    (rl : g.Rp H ms (.ref l) x) (rx : RelV x v) (rm : g.Rp H ms (.ref m) y) (ry : RelV y u) (hk : kvs ≠ []) (hz : kvs.length + more.length ≤ sizeLine) (t1 : ∀ p ∈ kvs, tupK p.1 = true) (t2 : ∀ p ∈ more, tupK p.1 = true)
    (q : ∀ ms' H', Keep ms H ms' H' → g.HR lk ms' (h.set l (.dct (dupd kvs more) 0)) H' → Q .non H') : wpAny (model X.prog X.w) X.A (call (.builtin "dict.update") [v, u]) (EP X pins σ Q) X.xe s := by
  obtain ⟨a, o, es, ep, D⟩ := HR.dct hR I e
  obtain ⟨b, o2, es2, ep2, D2⟩ := HR.dct hR I e2
  have ex := D.ref rl
  have ey := D2.ref rm
  subst ex ey
  cases rx
  cases ry
  obtain ⟨xs, p1, d1⟩ := D.tups I hK hw t1
  obtain ⟨ys, p2, d2⟩ := D2.tups I hK hw t2
  have hab : a ≠ b := fun z => hlm (by
    obtain ⟨h1, e3⟩ := List.getElem?_eq_some_iff.mp D.at_
    obtain ⟨h2, e4⟩ := List.getElem?_eq_some_iff.mp D2.at_
    exact (List.getElem_inj hR.nd).mp (e3.trans (z.trans e4.symm)))
  refine call_update_dictH (room8 hu) hab D2.ns d1 d2 (.inl fun z => hk (by subst z; cases p1; rfl)) (by rw [← Paired.length p1, ← Paired.length p2]; exact hz) fun h' hm' ho' hs => ?_
  obtain ⟨o', es', ep', g1, g2, g3, g4, g5, g6⟩ := hm'
  have pr' := Xs.upd p2 p1 t2
  have en' := xs_en (P := X.prog) pr'
  have z2 := length_upd more kvs
  obtain ⟨k1, hR'⟩ := HR.putD (kvs' := dupd kvs more) hR D (by omega) (keys_upd D.nd) (.inl (upd_keys (P := fun k => tupK k = true) t2 t1)) g2 g3 (by rw [g4]; rw [hw]; exact en')
  exact ⟨.non, _, Inv.putD (t' := s.toks) I D hs g1, rfl, q _ _ k1 hR'⟩

/-! ### a display -/
theorem tA_cons {W : WX} {G : Env} {e : E} {es : List E} {σ : L2.St} {H : Hp} {Q : List V → Hp → Prop} (h : tA g W (evs G (e :: es)) σ H Q) : tCons (tE g W (ev G e)) (tA g W (evs G es)) σ H Q := by
  obtain ⟨lk, ms, σp, h, hR, sl, p⟩ := h
  rw [evs] at p
  refine ⟨lk, ms, σp, h, hR, sl, (p.bind (relA := rV g)).mono ?_⟩
  rintro x H1 ⟨ms1, h1, v, _, k1, hR1, rx, p1⟩
  refine ⟨lk, ms1, σp, h1, hR1, sl.ext hR k1, (p1.bind (relA := rVs g)).mono ?_⟩
  rintro xs H2 ⟨ms2, h2, vs, _, k2, hR2, rxs, p2⟩
  exact p2.intro Keep.refl hR2 (.cons (Rp.ext hR1 k2 rx) rxs)
theorem tA_nil {W : WX} {G : Env} {σ : L2.St} {H : Hp} {Q : List V → Hp → Prop} (h : tA g W (evs G []) σ H Q) : tNil σ H Q := by
  obtain ⟨lk, ms, σp, h, hR, sl, p⟩ := h
  exact p.intro Keep.refl hR .nil
def trsOf (g : Gm) (W : WX) (G : Env) : List E → List (TE × TE)
  | k :: v :: r => (tE g W (ev G k), tE g W (ev G v)) :: trsOf g W G r
  | _ => []
def flat {α : Type} : List (α × α) → List α
  | [] => []
  | p :: r => p.1 :: p.2 :: flat r
def evenB {α : Type} : List α → Bool
  | [] => true
  | _ :: _ :: r => evenB r
  | _ => false
theorem pairs_of {W : WX} {G : Env} {σ : L2.St} : ∀ (es : List E) {H : Hp} {Q : List V → Hp → Prop}, evenB es = true → tA g W (evs G es) σ H Q → tPairs (trsOf g W G es) σ H (fun ps H3 => Q (flat ps) H3)
  | [], H, Q, _, h => tA_nil h
  | [_], H, Q, e, _ => absurd e Bool.false_ne_true
  | k :: v :: r, H, Q, e, h => by
    obtain ⟨lk, ms, σp, h, hR, sl, p⟩ := h
    simp only [evs] at p
    refine ⟨lk, ms, σp, h, hR, sl, (p.bind (relA := rV g)).mono ?_⟩
    rintro x H1 ⟨ms1, h1, pv, _, k1, hR1, rx, p1⟩
    have p1' : PostR g lk ms1 H1 (rVs g) ((ev G v σp h1).bind fun v h => (evs G r σp h).bind fun vs h => .ok (pv :: v :: vs) h) Q (fun c d H' => W c d σ H') := by
      refine Eq.mp (congrArg (fun z => PostR g lk ms1 H1 (rVs g) z Q (fun c d H' => W c d σ H')) ?_) p1
      cases ev G v σp h1 with
      | ok a b =>
        dsimp only [Res.bind]
        cases evs G r σp b <;> rfl
      | exc _ _ => rfl
      | bad => rfl
    refine ⟨lk, ms1, σp, h1, hR1, sl.ext hR k1, (p1'.bind (relA := rV g)).mono ?_⟩
    rintro y H2 ⟨ms2, h2, qv, _, k2, hR2, ry, p2⟩
    refine pairs_of r (Q := fun vs H3 => Q (x :: y :: vs) H3) e ⟨lk, ms2, σp, h2, hR2, (sl.ext hR k1).ext hR1 k2, (p2.bind (relA := rVs g)).mono ?_⟩
    rintro xs H3 ⟨ms3, h3, vs, _, k3, hR3, rxs, p3⟩
    exact p3.intro Keep.refl hR3 (.cons (Rp.ext hR1 (k2.trans k3) rx) (.cons (Rp.ext hR2 k3 ry) rxs))
/-- what the pairs of values are, as keys that are tuples, as others -/
theorem carriesH_of (I : L2.Inv X pins σ H s) (hK : X.K = g.K) : ∀ {ks vs : List PV} {ps : List (V × V)} {ws : List (Value × Value)}, VV ps ws → g.Rps H ms ks (ps.map (·.1)) → g.Rps H ms vs (ps.map (·.2)) → (∀ k ∈ ks, okKey k = true ∧ tupK k = true) →
    ∃ xs, CarriesH (nestedKind X.prog X.w) s.heap ws xs ∧ Paired (XsR g ms H) (ks.zip vs) xs
  | _, _, _, _, .nil, .nil, .nil, _ => ⟨[], trivial, .nil⟩
  | k :: ks, v :: vs, p :: ps, w :: ws, .cons r t, .cons r1 t1, .cons r2 t2, hk => by
    obtain ⟨xs, c, q⟩ := carriesH_of I hK t t1 t2 fun k hk' => hk k (List.mem_cons_of_mem _ hk')
    obtain ⟨o, tt⟩ := hk k List.mem_cons_self
    have hn : ∃ nk, nkey k = some nk ∧ nk.depth ≤ 8 := by
      unfold okKey at o
      split at o
      · rename_i nk q; exact ⟨nk, q, of_decide_eq_true o⟩
      · cases o
    obtain ⟨nk, e1, e2⟩ := hn
    cases k with
    | tup ys =>
      obtain ⟨b, us, e3, s1, s2⟩ := r1.tup_of
      obtain ⟨p1, p2⟩ := p
      obtain ⟨w1, w2⟩ := w
      dsimp only at e3 r1 r2 r
      subst e3
      obtain ⟨ra, rb⟩ := r
      cases ra
      exact ⟨(nk, b, w2) :: xs, ⟨rfl, rfl, ⟨nest_of I hK r1 e1 rfl, e2⟩, c⟩, .cons ⟨e1, e2, r1, _, r2, rb⟩ q⟩
    | _ => exact absurd tt Bool.false_ne_true
theorem carriesK_of {P : Program} : ∀ {ks vs : List PV} {ps : List (V × V)} {ws : List (Value × Value)}, VV ps ws → g.Rps H ms ks (ps.map (·.1)) → g.Rps H ms vs (ps.map (·.2)) → (∀ k ∈ ks, okKey k = true ∧ tupK k = false) →
    ∃ xs, Carries (mixKind P g.w) ws xs ∧ Paired (KvR g ms H) (ks.zip vs) xs
  | _, _, _, _, .nil, .nil, .nil, _ => ⟨[], trivial, .nil⟩
  | k :: ks, v :: vs, p :: ps, w :: ws, .cons r t, .cons r1 t1, .cons r2 t2, hk => by
    obtain ⟨xs, c, q⟩ := carriesK_of (P := P) t t1 t2 fun k hk' => hk k (List.mem_cons_of_mem _ hk')
    obtain ⟨o, tt⟩ := hk k List.mem_cons_self
    have hn : ∃ nk, nkey k = some nk := by
      unfold okKey at o
      split at o
      · rename_i nk q; exact ⟨nk, q⟩
      · cases o
    obtain ⟨nk, e1⟩ := hn
    obtain ⟨j, hj⟩ := pk_of e1 tt
    obtain ⟨w1, w2⟩ := w
    exact ⟨(j, w2) :: xs, ⟨pk_is hj r1 r.1, rfl, c⟩, .cons ⟨hj, _, r2, r.2⟩ q⟩
theorem Kv.upd {P : Program} : ∀ {more kvs : List (PV × PV)} {ys xs : List (Key × Value)}, Paired (KvR g ms H) more ys → Paired (KvR g ms H) kvs xs → Paired (KvR g ms H) (dupd kvs more) (merged xs ys) := by
  intro more kvs ys xs r
  induction r generalizing kvs xs with
  | nil => intro q; exact q
  | @cons p y ps ys h1 t ih =>
    intro q
    obtain ⟨e1, v, e4, e5⟩ := h1
    exact ih (Kv.put q e1 e4 e5)
theorem flat_split : ∀ {vs : List PV} {ps : List (V × V)} {ms : List Addr} {H : Hp}, evenB vs = true → g.Rps H ms vs (flat ps) → g.Rps H ms (evens vs) (ps.map (·.1)) ∧ g.Rps H ms (odds vs) (ps.map (·.2)) := by
  intro vs ps ms H e r
  induction ps generalizing vs with
  | nil => cases r; exact ⟨.nil, .nil⟩
  | cons p ps ih =>
    cases r with
    | cons r1 r =>
      cases r with
      | cons r2 r =>
        obtain ⟨a, b⟩ := ih (by exact e) r
        exact ⟨.cons r1 a, .cons r2 b⟩

theorem zip_keys {ks vs : List PV} (hl : ks.length = vs.length) : (ks.zip vs).map (·.1) = ks := by
  induction ks generalizing vs with
  | nil => rfl
  | cons k ks ih =>
    cases vs with
    | nil => cases hl
    | cons v vs => simp only [List.zip_cons_cons, List.map_cons, ih (by simpa using hl)]
theorem evens_len {α : Type} : ∀ (xs : List α), (evens xs).length ≤ xs.length
  | [] => Nat.le_refl _
  | [_] => Nat.zero_le _
  | a :: b :: r => by have := evens_len r; simp only [evens, List.length_cons]; omega
theorem Dict_pairsX {prog : Program} {w : World} {K : Type} [DecidableEq K] {knd : HeapKind prog w K} {A : Around} {E : Value → Shared → Prop} {s : Shared} {env : PySem.Env} {keys : List (Option Expr)} {values : List Expr} {pos : Pos} {pairs : List (Sem Value × Sem Value)} {Q : Value → Shared → Prop} (hu : knd.room A)
    (hshape : (evalEachOpt keys env).zip ((evalEach values env).map fun v => do let x ← v; standAt pos; pure x) = pairs.map fun p => (some p.1, p.2)) (h0 : pairs ≠ []) (hlen : pairs.length ≤ 15)
    (h : wpAny (model prog w) A (evalPairs pairs) (fun vs s₁ => ∃ ps, CarriesH knd s₁.heap vs ps ∧ s₁.heap.DictOfH knd s.heap.objs.size [] ∧
      ∀ h' tk, h'.DictOfH knd s.heap.objs.size (storedAllH [] ps) → Heap.SameBut s.heap.objs.size s₁.heap h' → Q (.ref s.heap.objs.size) { s₁ with heap := h', toks := tk }) E
      { s with heap := s.heap.push { cls := .type "dict", data := .dict #[] } }) :
    wpAny (model prog w) A (eval (.Dict keys values pos) env) Q E s := by
  rw [arm_eval_Dict, hshape, dictDisplay_pairs pairs h0 (by omega)]
  exact wpAny_bind (wpAny_standAt (wpAny_bind (wpAny_subDictH (knd := knd) (Q := fun d s' => wpAny (model prog w) A (pure (Value.ref d)) Q E s') hu hlen
    (wpAny_mono h (fun vs s₁ h₁ => by obtain ⟨ps, hc, hm, hq⟩ := h₁; exact ⟨ps, hc, hm, fun h' tk a b => wpAny_pure (hq h' tk a b)⟩) fun _ _ e => e))))
theorem pe_dic {W : WX} {G : Env} {pos : Pos} {es : List E} {keys : List (Option Expr)} {values : List Expr} (hK : X.K = g.K) (hw : X.w = g.w) (hu : X.A.units + 64 < cLine) (tk : Takes X W) (hpp : PPs X pos keys values (trsOf g W G es)) (hev : evenB es = true) (hall : keys.all (·.isSome) = true) (hl : keys.length = values.length) (h0 : keys ≠ []) (h15 : keys.length ≤ 15) :
    PE X (.Dict keys values pos) (tE g W (ev G (.dic es))) := by
  refine ⟨fun pins s σ H Q I hh => ?_⟩
  obtain ⟨lk, ms, σp, h, hR, sl, P⟩ := hh
  simp only [ev] at P
  have np : H s.heap.objs.size = none := I.hok.fresh (Nat.le_refl _)
  have hg : (s.heap.push noD).get? s.heap.objs.size = some noD := Heap.get?_push_size _ rfl
  have I1 := I.laid (a := s.heap.objs.size) (o := AtO s.heap.objs.size noD) (h' := s.heap.push noD) (t' := s.toks) (fun _ _ q => Heap.get?_push_of_some _ q) (Nat.le_refl _) (at_ok hg)
  obtain ⟨k1, hR1⟩ := HR.beside (o := AtO s.heap.objs.size noD) hR np
  have nps : s.heap.objs.size ∉ ms := HR.fresh hR np
  have ns : (s.heap.objs.size == sysModules) = false := beq_eq_false_iff_ne.mpr (Ne.symm (Nat.ne_of_lt I.big))
  cases hev2 : evs G es σp h with
  | bad => rw [hev2] at P; exact P.elim
  | exc c h1 =>
    rw [hev2] at P
    have rd : tA g W (evs G es) σ (upd H s.heap.objs.size (AtO s.heap.objs.size noD)) (fun _ _ => False) := by
      refine ⟨lk, ms, σp, h, hR1, sl.ext hR k1, ?_⟩
      rw [hev2]
      exact fun ms' H' C k' hr hc => P ms' H' C (k1.trans k') hr hc
    refine wpAny_Dict_walk (knd := mixKind X.prog X.w) hall hl h0 h15 (thn (hpp.run pins _ σ _ _ I1 (pairs_of es hev rd)) fun ws s2 ⟨ps, H2, _, _, z⟩ => z.elim)
  | ok vs h1 =>
    rw [hev2] at P
    have P' : PostR g lk ms H (rV g) (ofO (dicV (evens vs) (odds vs) h1)) Q (fun c d H' => W c d σ H') := P
    unfold dicV at P'
    split at P'
    · rename_i hc
      obtain ⟨c1, c2, c3, c4⟩ := hc
      have rd : tA g W (evs G es) σ (upd H s.heap.objs.size (AtO s.heap.objs.size noD)) (fun u H' => ∃ ms', Keep ms (upd H s.heap.objs.size (AtO s.heap.objs.size noD)) ms' H' ∧ g.HR lk ms' h1 H' ∧ g.Rps H' ms' vs u) := by
        refine ⟨lk, ms, σp, h, hR1, sl.ext hR k1, ?_⟩
        rw [hev2]
        exact fun ms' H' u k' hr ru => ⟨ms', k', hr, ru⟩
      have nd : ∀ kvs : List (PV × PV), ((dupd [] kvs).map (·.1)).Nodup := fun kvs => keys_upd (kvs := []) (by simp)
      have zl : (dupd [] ((evens vs).zip (odds vs))).length ≤ sizeLine := by
        have a1 := length_upd ((evens vs).zip (odds vs)) []
        have a2 : ((evens vs).zip (odds vs)).length ≤ 15 := by rw [List.length_zip]; omega
        rw [sizeLine_eq]
        simp only [List.length_nil] at a1
        omega
      have hkey : ∀ k ∈ evens vs, okKey k = true := fun k hk => List.all_eq_true.mp c1 k hk
      have hev3 : ∀ ps : List (V × V), ∀ ms' H', g.Rps H' ms' vs (flat ps) → evenB vs = true := by
        intro ps ms' H' r
        have : ∀ (ps : List (V × V)) (vs : List PV), g.Rps H' ms' vs (flat ps) → evenB vs = true := by
          intro ps
          induction ps with
          | nil => intro vs r; cases r; rfl
          | cons p ps ih =>
            intro vs r
            match vs, r with
            | _ :: _ :: vs, .cons _ (.cons _ r) => exact ih vs r
        exact this ps vs r
      by_cases ht : ∀ k ∈ evens vs, tupK k = true
      · refine Dict_pairsX (knd := nestedKind X.prog X.w) (by show X.A.units + 8 < cLine; omega) (zip_pairTrees keys values X.env pos hall hl) (fun z => ?_) (by rw [pairTrees_length keys values X.env pos hall hl]; exact h15) (thn (hpp.run pins _ σ _ _ I1 (pairs_of es hev rd)) fun ws s2 ⟨ps, H2, I2, rel, ms', k2, hR2, ru⟩ => ?_)
        · have e1 := pairTrees_length keys values X.env pos hall hl
          rw [z] at e1
          exact h0 (List.length_eq_zero_iff.mp e1.symm)
        obtain ⟨rk, rv⟩ := flat_split (g := g) (hev3 ps ms' H2 ru) ru
        obtain ⟨xs, cx, px⟩ := carriesH_of I2 hK rel rk rv fun k hk => ⟨hkey k hk, ht k hk⟩
        obtain ⟨hp2, np2⟩ := k2.2 _ _ upd_same nps
        obtain ⟨g2, _⟩ : ObjOk X.prog X.w H2 s2.heap s.heap.objs.size (AtO s.heap.objs.size noD) := I2.hok _ _ hp2
        refine ⟨xs, cx, ⟨noD, #[], 0, g2, ⟨rfl, rfl, rfl⟩, rfl, rfl, (fun _ z => nomatch z), List.nodup_nil⟩, fun h' tk' hm' hs => ?_⟩
        obtain ⟨o', es', ep', f1, f2, f3, f4, f5, f6⟩ := hm'
        have pr' := Xs.upd px (.nil : Paired (XsR g ms' H2) [] []) (fun p hp => ht p.1 (by rw [← zip_keys c2]; exact List.mem_map.mpr ⟨p, hp, rfl⟩))
        have en' := xs_en (P := X.prog) pr'
        obtain ⟨k3, hR3, r3⟩ := HR.newD (kvs := dupd [] ((evens vs).zip (odds vs))) (o' := o') hR2 hp2 np2 ns zl (nd _) (.inl (upd_keys (P := fun k => tupK k = true) (fun p hp => ht p.1 (by rw [← zip_keys c2]; exact List.mem_map.mpr ⟨p, hp, rfl⟩)) (fun _ z => nomatch z))) f2 f3 (by rw [f4]; rw [hw]; exact en') ms H (k1.trans k2) np
        have I3 : L2.Inv X pins σ (upd H2 s.heap.objs.size (AtO s.heap.objs.size o')) { s2 with heap := h', toks := tk' } :=
          I2.write (x := s.heap.objs.size) (e := s.heap.objs.size) (by rw [hp2]; trivial) (.inl rfl) (fun b u hb q => (hs.2 b hb).trans q) ⟨_, f1⟩ (at_ok f1)
        exact ⟨.ref s.heap.objs.size, _, I3, rfl, P' _ _ _ k3 hR3 r3⟩
      · have hf : ∀ k ∈ evens vs, tupK k = false := by
          unfold sameK at c4
          rw [Bool.or_eq_true] at c4
          rcases c4 with c4 | c4
          · exact absurd (fun k hk => List.all_eq_true.mp c4 k hk) ht
          · intro k hk
            have := List.all_eq_true.mp c4 k hk
            simpa using this
        refine wpAny_Dict_walk (knd := mixKind X.prog X.w) hall hl h0 h15 (thn (hpp.run pins _ σ _ _ I1 (pairs_of es hev rd)) fun ws s2 ⟨ps, H2, I2, rel, ms', k2, hR2, ru⟩ => ?_)
        obtain ⟨rk, rv⟩ := flat_split (g := g) (hev3 ps ms' H2 ru) ru
        obtain ⟨xs, cx, px⟩ := carriesK_of (P := X.prog) rel rk rv fun k hk => ⟨hkey k hk, hf k hk⟩
        obtain ⟨hp2, np2⟩ := k2.2 _ _ upd_same nps
        obtain ⟨g2, _⟩ : ObjOk X.prog X.w H2 s2.heap s.heap.objs.size (AtO s.heap.objs.size noD) := I2.hok _ _ hp2
        refine ⟨xs, by rw [hw]; exact cx, ⟨noD, #[], 0, g2, ⟨rfl, rfl, rfl⟩, rfl, (fun e he => absurd he (by simp)), .nil, List.nodup_nil⟩, fun h' hm' hs => ?_⟩
        obtain ⟨o', es', ep', f1, f2, f3, f4, f5, f6⟩ := hm'
        have pr' := Kv.upd (P := X.prog) px (.nil : Paired (KvR g ms' H2) [] [])
        have en' := leaf_en (P := X.prog) pr' (by rw [← hw]; exact f5) (fun e he => by rw [← hw]; exact f4 e (by simpa using he))
        obtain ⟨k3, hR3, r3⟩ := HR.newD (kvs := dupd [] ((evens vs).zip (odds vs))) (o' := o') hR2 hp2 np2 ns zl (nd _) (.inr (upd_keys (P := fun k => tupK k = false) (fun p hp => hf p.1 (by rw [← zip_keys c2]; exact List.mem_map.mpr ⟨p, hp, rfl⟩)) (fun _ z => nomatch z))) f2 f3 en' ms H (k1.trans k2) np
        have I3 : L2.Inv X pins σ (upd H2 s.heap.objs.size (AtO s.heap.objs.size o')) { s2 with heap := h', toks := s2.toks + ws.length } :=
          I2.write (x := s.heap.objs.size) (e := s.heap.objs.size) (by rw [hp2]; trivial) (.inl rfl) (fun b u hb q => (hs.2 b hb).trans q) ⟨_, f1⟩ (at_ok f1)
        exact ⟨.ref s.heap.objs.size, _, I3, rfl, P' _ _ _ k3 hR3 r3⟩
    · exact P'.elim
end
end Z
end

section
set_option Elab.async false
set_option linter.all false
set_option maxRecDepth 100000
set_option autoImplicit false
set_option maxHeartbeats 2000000
/-! S5: order, in, subscripts, slices, truth, built-ins, methods. -/
namespace Z
open PySem PySem.Spec PyProof.Rows L2

section
variable {X : Cx} {g : Gm} {lk : Addr → Option Obj} {ms : List Addr} {h : PH} {H : Hp} {l : Nat} {a : Addr} {pins : List (Addr × Obj)} {s : Shared} {σ : L2.St}
/-- depth of data read -/
theorem depths_of {f : PV → Option PyData} {n : Nat} (ih : ∀ {p d}, f p = some d → PyData.depth d ≤ n) : ∀ {xs : List PV} {ds : List PyData}, Paired (fun x y => f x = some y) xs ds → PyData.depthAll ds ≤ n
  | _, _, .nil => Nat.zero_le _
  | _, _, .cons a t => by
    have h1 := ih a
    have h2 := depths_of ih t
    simp only [PyData.depthAll]
    omega
theorem dat_depth (h : PH) : ∀ (n : Nat) {p : PV} {d : PyData}, dat h n p = some d → d.depth ≤ n := by
  intro n
  induction n with
  | zero =>
    intro p d e
    cases p <;> simp [dat] at e <;> subst e <;> simp [PyData.depth]
  | succ n ih =>
    intro p d e
    cases p with
    | non => simp [dat] at e; subst e; simp [PyData.depth]
    | bl _ => simp [dat] at e; subst e; simp [PyData.depth]
    | int _ => simp [dat] at e; subst e; simp [PyData.depth]
    | str _ => simp [dat] at e; subst e; simp [PyData.depth]
    | tup xs =>
      simp only [dat, Option.map_eq_some_iff] at e
      obtain ⟨ds, e1, rfl⟩ := e
      have := depths_of ih (optAll_map e1)
      simp only [PyData.depth]
      omega
    | ref l =>
      simp only [dat] at e
      split at e
      · simp only [Option.map_eq_some_iff] at e
        obtain ⟨ds, e1, rfl⟩ := e
        have := depths_of ih (optAll_map e1)
        simp only [PyData.depth]
        omega
      · simp only [Option.map_eq_some_iff] at e
        obtain ⟨ds, e1, rfl⟩ := e
        have := depths_of ih (optAll_map e1)
        simp only [PyData.depth]
        omega
      · cases e
    | exc _ => simp [dat] at e
    | ro _ => simp [dat] at e
theorem dat_reads (hR : g.HR lk ms h H) (I : L2.Inv X pins σ H s) (hK : X.K = g.K) {n : Nat} {p : PV} {v : V} {u : Value} {d : PyData} (rp : g.Rp H ms p v) (r : RelV v u) (e : dat h n p = some d) : ∃ as, Reads s.heap u d as := Dp.reads I d v u (hK ▸ dat_dp hR n rp e) r
theorem ok_lt (hK : X.K = g.K) (hu : X.A.units + 64 < cLine) : OpR X (compareOp .Lt) (vT g (cmpO .lt)) := by
  intro pins s σ H x y v u Q I rx ry hh
  obtain ⟨lk, ms, h, p, q, b, hR, rp, rq, e, hq⟩ := hh
  unfold cmpO pyLt at e
  dsimp only at e
  split at e
  · cases e
    cases rp; cases rq
    exact op_lt pins s σ H _ _ v u Q I rx ry ⟨_, _, rfl, rfl, hq⟩
  · cases e
    cases rp; cases rq
    exact op_lt_str pins s σ H _ _ v u Q I rx ry ⟨_, _, rfl, rfl, hq⟩
  · split at e
    · rename_i d1 d2 f1 f2
      split at e
      · rename_i c
        cases e
        obtain ⟨as, r1⟩ := dat_reads hR I hK rp rx f1
        obtain ⟨bs, r2⟩ := dat_reads hR I hK rq ry f2
        have hn : d1 ≠ .none := by
          intro z
          subst z
          simp only [dd, dat, Option.map_eq_some_iff] at f1
          obtain ⟨_, _, z⟩ := f1
          cases z
        have hd := dat_depth h 12 f1
        exact PySem.W.rcLt_alike d1 d2 X.A s v u as bs r1 r2 c hn (by omega) _ _ _ _ ⟨.bl _, H, I, rfl, hq⟩
      · cases e
    · cases e
  · cases e

/-! ### in -/
theorem dat_ref {n : Nat} {ys : List PV} {ds : List PyData} (e : h[l]? = some (.lst ys)) (f : optAll (ys.map (dat h n)) = some ds) : dat h (n + 1) (.ref l) = some (.list ds) := by
  simp only [dat, e, f, Option.map_some]
theorem dat_tup {n : Nat} {ys : List PV} {ds : List PyData} (f : optAll (ys.map (dat h n)) = some ds) : dat h (n + 1) (.tup ys) = some (.tuple ds) := by
  simp only [dat, f, Option.map_some]
theorem ok_isin (hK : X.K = g.K) (hw : X.w = g.w) (hu : X.A.units + 65 < cLine) (neg : Bool) : OpR X (compareOp (if neg then .NotIn else .In)) (vT g (cmpO (if neg then .nin else .isin))) := by
  intro pins s σ H x y v u Q I rx ry hh
  obtain ⟨lk, ms, h, p, q, b, hR, rp, rq, e, hq⟩ := hh
  have e' : ∃ b', containsV p q h = some b' ∧ b = if neg then !b' else b' := by
    cases neg with
    | true =>
      simp only [cmpO, if_true, Option.map_eq_some_iff] at e
      obtain ⟨b', e1, e2⟩ := e
      exact ⟨b', e1, e2.symm⟩
    | false => exact ⟨b, e, rfl⟩
  clear e
  obtain ⟨b', e, rfl⟩ := e'
  unfold containsV at e
  split at e
  · split at e
    · cases e
      cases rp; cases rq
      cases neg with
      | true => exact op_notin_str pins s σ H _ _ v u Q I rx ry ⟨_, _, rfl, rfl, hq⟩
      | false => exact op_in_str pins s σ H _ _ v u Q I rx ry ⟨_, _, rfl, rfl, hq⟩
    · cases e
  · split at e
    · rename_i kvs n eh
      split at e
      · rename_i f
        cases e
        exact ok_in_dct hK hw (by omega) hR I eh rp rx rq ry f neg hq
      · cases e
    · rename_i ys eh
      split at e
      · rename_i d ds f1 f2
        split at e
        · rename_i c
          cases e
          rw [Bool.and_eq_true] at c
          obtain ⟨as, r1⟩ := dat_reads hR I hK rp rx f1
          have f3 := dat_ref (n := 11) eh f2
          obtain ⟨bs, r2⟩ := dat_reads hR I hK rq ry f3
          have hd := dat_depth h 12 f1
          cases neg with
          | true => exact SeqAt.notIn_list_reads r2 r1 (SeqAt.canLay_of_shaped c.2) (SeqAt.canLay_of_shaped c.1) (by omega) ⟨.bl _, H, I, rfl, hq⟩
          | false => exact SeqAt.in_list_reads r2 r1 (SeqAt.canLay_of_shaped c.2) (SeqAt.canLay_of_shaped c.1) (by omega) ⟨.bl _, H, I, rfl, hq⟩
        · cases e
      · cases e
    · cases e
  · split at e
    · rename_i d ds f1 f2
      split at e
      · rename_i c
        cases e
        rw [Bool.and_eq_true] at c
        obtain ⟨as, r1⟩ := dat_reads hR I hK rp rx f1
        have f3 := dat_tup (n := 11) f2
        obtain ⟨bs, r2⟩ := dat_reads hR I hK rq ry f3
        have hd := dat_depth h 12 f1
        cases neg with
        | true => exact SeqAt.notIn_tuple_reads r2 r1 (SeqAt.canLay_of_shaped c.2) (SeqAt.canLay_of_shaped c.1) (by omega) ⟨.bl _, H, I, rfl, hq⟩
        | false => exact SeqAt.in_tuple_reads r2 r1 (SeqAt.canLay_of_shaped c.2) (SeqAt.canLay_of_shaped c.1) (by omega) ⟨.bl _, H, I, rfl, hq⟩
      · cases e
    · cases e
  · cases e

/-! ### truth -/
theorem len_ne (n : Nat) : (n != 0) = ((n : Int) != 0) := by
  cases n with
  | zero => rfl
  | succ n => rfl
theorem tru_of (hK : X.K = g.K) (hR : g.HR lk ms h H) {p : PV} {v : V} {b : Bool} (rp : g.Rp H ms p v) (e : truth p h = some b) : TruV X.K v H b := by
  unfold truth at e
  split at e
  · cases e; cases rp; rfl
  · cases e; cases rp; rfl
  · cases e; cases rp; rfl
  · split at e
    · rename_i z; cases e; cases rp
      exact ⟨z, len_ne _⟩
    · cases e
  · split at e
    · rename_i xs eh
      cases e
      obtain ⟨a, vs, f1, s1, r1, z⟩ := HR.anyl hR (.inl eh)
      have := Rp.ref_at rp f1
      subst this
      exact .inl ⟨vs, hK ▸ s1, by cases r1 <;> rfl⟩
    · rename_i xs eh
      cases e
      obtain ⟨a, vs, f1, s1, r1, z⟩ := HR.anyl hR (.inr eh)
      have := Rp.ref_at rp f1
      subst this
      exact .inl ⟨vs, hK ▸ s1, by cases r1 <;> rfl⟩
    · cases e
  · cases e
    obtain ⟨a, vs, rfl, s1, r1⟩ := rp.tup_of
    exact .inr (.inl ⟨vs, hK ▸ s1, by cases r1 <;> rfl⟩)
  · cases e

/-! ### subscripts -/
theorem atI_rps {xs : List PV} {vs : List V} {i : Int} {p : PV} (r : g.Rps H ms xs vs) (e : atI xs i = some p) : ∃ v, atI vs i = some v ∧ g.Rp H ms p v := by
  unfold atI at e ⊢
  rw [← r.length]
  cases hj : ixN xs.length i with
  | none => rw [hj] at e; cases e
  | some j =>
    rw [hj] at e
    exact r.get e
theorem ix_dct (hK : X.K = g.K) (hw : X.w = g.w) (hu : X.A.units + 64 < cLine) : IxR X (fun x y H Q => ∃ lk ms h l k kvs n p, g.HR lk ms h H ∧ g.Rp H ms (.ref l) x ∧ g.Rp H ms k y ∧ h[l]? = some (.dct kvs n) ∧ fitK kvs k = true ∧ dget kvs k = some p ∧ ∀ w, g.Rp H ms p w → Q w H) := by
  intro value slice pins s σ H x y v u Q I rx ry hh hs
  obtain ⟨lk, ms, h, l, k, kvs, n, p, hR, rl, rk, eh, f, hp, q⟩ := hh
  obtain ⟨a, o, es, ep, D⟩ := HR.dct hR I eh
  have ey := D.ref rl
  subst ey
  cases rx
  exact tail_any (T := "dict") ⟨_, D.get, D.ex.1⟩ PySem.F.slot_dict_getitem.lookup (ok_dgetI hK hw hu hR I eh rl rfl rk ry f hp q) hs
theorem ok_idx (hK : X.K = g.K) (hw : X.w = g.w) (hu : X.A.units + 64 < cLine) : IxR X (v2 g idxV) := by
  intro value slice pins s σ H x y v u Q I rx ry hh hs
  obtain ⟨lk, ms, h, p, q, hR, rp, rq, P⟩ := hh
  unfold idxV at P
  split at P
  · split at P
    · rename_i xs eh
      split at P
      · rename_i j
        cases hp : atI xs j with
        | none => rw [hp] at P; exact P.elim
        | some w =>
          rw [hp] at P
          obtain ⟨a, vs, f1, s1, r1, z⟩ := HR.anyl hR (.inl eh)
          have := Rp.ref_at rp f1
          subst this
          obtain ⟨wv, g1, g2⟩ := atI_rps r1 hp
          cases rq
          exact ix_list value slice pins s σ H _ _ v u Q I rx ry ⟨a, vs, j, wv, rfl, rfl, hK ▸ s1, g1, PostR.intro (h' := h) P Keep.refl hR g2⟩ hs
      · exact P.elim
    · rename_i xs eh
      split at P
      · rename_i j
        cases hp : atI xs j with
        | none => rw [hp] at P; exact P.elim
        | some w =>
          rw [hp] at P
          obtain ⟨a, vs, f1, s1, r1, z⟩ := HR.anyl hR (.inr eh)
          have := Rp.ref_at rp f1
          subst this
          obtain ⟨wv, g1, g2⟩ := atI_rps r1 hp
          cases rq
          exact ix_list value slice pins s σ H _ _ v u Q I rx ry ⟨a, vs, j, wv, rfl, rfl, hK ▸ s1, g1, PostR.intro (h' := h) P Keep.refl hR g2⟩ hs
      · exact P.elim
    · rename_i kvs n eh
      split at P
      · rename_i f
        cases hp : dget kvs q with
        | none => rw [hp] at P; exact P.elim
        | some w =>
          rw [hp] at P
          exact ix_dct hK hw hu value slice pins s σ H _ _ v u Q I rx ry ⟨lk, ms, h, _, q, kvs, n, w, hR, rp, rq, eh, f, hp, fun w' r' => PostR.intro (h' := h) P Keep.refl hR r'⟩ hs
      · exact P.elim
    · exact P.elim
  · rename_i xs j
    cases hp : atI xs j with
    | none => rw [hp] at P; exact P.elim
    | some w =>
      rw [hp] at P
      obtain ⟨a, vs, rfl, s1, r1⟩ := rp.tup_of
      obtain ⟨wv, g1, g2⟩ := atI_rps r1 hp
      cases rq
      exact ix_tup value slice pins s σ H _ _ v u Q I rx ry ⟨a, vs, j, wv, rfl, rfl, hK ▸ s1, g1, PostR.intro (h' := h) P Keep.refl hR g2⟩ hs
  · rename_i xs j
    cases hp : atI xs j with
    | none => rw [hp] at P; exact P.elim
    | some w =>
      rw [hp] at P
      obtain ⟨a, vs, rfl, s1, r1⟩ := rp.ro_of
      obtain ⟨wv, g1, g2⟩ := atI_rps r1 hp
      cases rq
      exact ix_list value slice pins s σ H _ _ v u Q I rx ry ⟨a, vs, j, wv, rfl, rfl, hK ▸ s1.seq, g1, PostR.intro (h' := h) P Keep.refl hR g2⟩ hs
  · rename_i z j
    split at P
    · rename_i hz
      cases hp : atI z.cps.toList j with
      | none => rw [hp] at P; exact P.elim
      | some w =>
        rw [hp] at P
        cases rp; cases rq
        exact ix_str value slice pins s σ H _ _ v u Q I rx ry ⟨z, j, w, rfl, rfl, hz, hp, PostR.intro (h' := h) P Keep.refl hR .str⟩ hs
    · exact P.elim
  · exact P.elim
end
end Z
end

section
set_option Elab.async false
set_option linter.all false
set_option maxRecDepth 100000
set_option autoImplicit false
set_option maxHeartbeats 2000000
/-! S6: slices, built-ins. -/
namespace Z
open PySem PySem.Spec PyProof.Rows L2

section
variable {X : Cx} {g : Gm} {lk : Addr → Option Obj} {ms : List Addr} {h : PH} {H : Hp} {l : Nat} {a : Addr} {pins : List (Addr × Obj)} {s : Shared} {σ : L2.St}
/-! ### slices -/
theorem cut_rps {xs : List PV} {vs : List V} {lo hi : Option Int} (r : g.Rps H ms xs vs) : g.Rps H ms (cutL xs lo hi) (cutV vs lo hi) := by
  unfold cutL cutV
  rw [← r.length]
  exact (r.drop _).take _
theorem cutL_length (xs : List PV) (lo hi : Option Int) : (cutL xs lo hi).length ≤ xs.length := by
  unfold cutL
  rw [List.length_take, List.length_drop]
  omega
def rSlc (g : Gm) : V → Option Int → Option Int → Hp → VK → Prop := fun x lo hi H Q => ∃ lk ms h p, g.HR lk ms h H ∧ g.Rp H ms p x ∧ PostR g lk ms H (rV g) (ofO (slcV p lo hi h)) Q (fun _ _ _ => False)
theorem sl_ok (hK : X.K = g.K) : L2.SlR X (rSlc g) := by
  intro pins s σ H x v vl vu lo hi sl Q I rx hs pl pu hh
  have pl' := pl
  obtain ⟨lk, ms, h, p, hR, rp, P⟩ := hh
  unfold slcV at P
  split at P
  · split at P
    · rename_i xs eh
      obtain ⟨a, vs, f1, s1, r1, z⟩ := HR.anyl hR (.inl eh)
      have := Rp.ref_at rp f1
      subst this
      refine sl_list pins s σ H _ v vl vu lo hi sl Q I rx hs pl pu ⟨a, vs, rfl, hK ▸ s1, fun p np => ?_⟩
      obtain ⟨k, hR', rp'⟩ := HR.newL hR np (Nat.le_trans (cutL_length xs lo hi) z) (cut_rps (lo := lo) (hi := hi) r1)
      exact P.intro k hR' rp'
    · rename_i xs eh
      obtain ⟨a, vs, f1, s1, r1, z⟩ := HR.anyl hR (.inr eh)
      have := Rp.ref_at rp f1
      subst this
      refine sl_list pins s σ H _ v vl vu lo hi sl Q I rx hs pl pu ⟨a, vs, rfl, hK ▸ s1, fun p np => ?_⟩
      obtain ⟨k, hR', rp'⟩ := HR.newL hR np (Nat.le_trans (cutL_length xs lo hi) z) (cut_rps (lo := lo) (hi := hi) r1)
      exact P.intro k hR' rp'
    · exact P.elim
  · rename_i xs
    obtain ⟨a, vs, rfl, s1, r1⟩ := rp.tup_of
    refine sl_tupA pins s σ H _ v vl vu lo hi sl Q I rx hs pl pu ⟨a, vs, rfl, hK ▸ s1, fun hw => ?_, fun hw p np => ?_⟩
    · have hl := r1.length
      have e : cutL xs lo hi = xs := by
        unfold cutL
        rw [hl, hw.1, hw.2, Nat.sub_zero, List.drop_zero, List.take_of_length_le (by omega)]
      rw [e] at P
      exact PostR.intro (h' := h) P Keep.refl hR rp
    · obtain ⟨k, hR', rp'⟩ := HR.newT hR np (cut_rps (lo := lo) (hi := hi) r1)
      exact P.intro k hR' rp'
  · rename_i xs
    obtain ⟨a, vs, rfl, s1, r1⟩ := rp.ro_of
    obtain ⟨its, rv, pl, hz⟩ := I.list (hK ▸ s1.seq)
    refine sl_list pins s σ H _ v vl vu lo hi sl Q I rx hs pl' pu ⟨a, vs, rfl, hK ▸ s1.seq, fun p np => ?_⟩
    obtain ⟨k, hR', rp'⟩ := HR.newL hR np (Nat.le_trans (cutL_length xs lo hi) (by rw [r1.length]; exact hz)) (cut_rps (lo := lo) (hi := hi) r1)
    exact P.intro k hR' rp'
  · rename_i z
    split at P
    · rename_i hz
      cases rp
      exact sl_str pins s σ H _ v vl vu lo hi sl Q I rx hs pl pu ⟨z, rfl, hz, PostR.intro (h' := h) P Keep.refl hR .str⟩
    · exact P.elim
  · exact P.elim

/-! ### len, abs .. -/
theorem Rps.one {ps : List PV} {x : V} (r : g.Rps H ms ps [x]) : ∃ p, ps = [p] ∧ g.Rp H ms p x := by
  cases r with
  | cons r t => cases t; exact ⟨_, rfl, r⟩
theorem Rps.inv1 {p : PV} {xs : List V} (r : g.Rps H ms [p] xs) : ∃ x, xs = [x] ∧ g.Rp H ms p x := by
  cases r with
  | cons r t => cases t; exact ⟨_, rfl, r⟩
theorem Rps.inv2 {p q : PV} {xs : List V} (r : g.Rps H ms [p, q] xs) : ∃ x y, xs = [x, y] ∧ g.Rp H ms p x ∧ g.Rp H ms q y := by
  cases r with
  | cons r t => cases t with
    | cons r2 t => cases t; exact ⟨_, _, rfl, r, r2⟩
theorem Rps.ints {is : List Int} : ∀ {ps : List PV} {vs : List V}, g.Rps H ms ps vs → intsOf ps = some is → vs = is.map V.int := by
  induction is with
  | nil =>
    intro ps vs r e
    cases ps with
    | nil => cases r; rfl
    | cons p ps =>
      cases p <;> simp [intsOf] at e
  | cons i is ih =>
    intro ps vs r e
    cases ps with
    | nil => cases e
    | cons p ps =>
      cases p <;> simp [intsOf] at e
      obtain ⟨rfl, rfl⟩ := e.2
      cases r with
      | cons r t => cases r; rw [ih t e.1]; rfl
theorem Rps.bls {is : List Bool} : ∀ {ps : List PV} {vs : List V}, g.Rps H ms ps vs → blsOf ps = some is → vs = is.map V.bl := by
  induction is with
  | nil =>
    intro ps vs r e
    cases ps with
    | nil => cases r; rfl
    | cons p ps =>
      cases p <;> simp [blsOf] at e
  | cons i is ih =>
    intro ps vs r e
    cases ps with
    | nil => cases e
    | cons p ps =>
      cases p <;> simp [blsOf] at e
      obtain ⟨rfl, rfl⟩ := e.2
      cases r with
      | cons r t => cases r; rw [ih t e.1]; rfl

/-! ### items by values and by the machine's values -/
def PU (g : Gm) (ms : List Addr) (H : Hp) : List PV → List Value → Prop := Paired fun p u => ∃ v, g.Rp H ms p v ∧ RelV v u
theorem PU.of : ∀ {xs : List PV} {vs : List V} {us : List Value}, g.Rps H ms xs vs → Vals vs us → PU g ms H xs us
  | _, _, _, .nil, .nil => .nil
  | _, _, _, .cons a b, .cons c d => .cons ⟨_, a, c⟩ (PU.of b d)
theorem PU.keys : ∀ {kvs : List (PV × PV)} {es : List DictEntry}, Paired (EnR g.w g.K g.px H ms) kvs es → PU g ms H (kvs.map (·.1)) (es.map (·.key))
  | _, _, .nil => .nil
  | _, _, .cons a b => .cons a.2.1 (PU.keys b)
theorem PU.back : ∀ {xs : List PV} {us : List Value}, PU g ms H xs us → ∃ vs, g.Rps H ms xs vs ∧ Vals vs us
  | _, _, .nil => ⟨[], .nil, .nil⟩
  | _, _, .cons ⟨v, a, b⟩ t => let ⟨vs, c, d⟩ := PU.back t; ⟨v :: vs, .cons a c, .cons b d⟩
theorem PU.ext {h' : PH} {ms' : List Addr} {H' : Hp} (hR : g.HR lk ms h H) (k : Keep ms H ms' H') {xs : List PV} {us : List Value} (p : PU g ms H xs us) : PU g ms' H' xs us := Paired.mapP p fun _ _ ⟨v, a, b⟩ => ⟨v, Rp.ext hR k a, b⟩
/-- an item with its data -/
abbrev IR (g : Gm) (ms : List Addr) (H : Hp) (u : Value) (q : PV × PyData) : Prop := ∃ v, g.Rp H ms q.1 v ∧ RelV v u
theorem PU.each : ∀ {xs : List PV} {us : List Value} {ds : List PyData}, PU g ms H xs us → Paired (fun x y => dd h x = some y) xs ds → PySem.W.EachIs (IR g ms H) us (xs.zip ds)
  | _, _, _, .nil, .nil => .nil
  | _, _, _, .cons a b, .cons c d => .cons a (PU.each b d)
theorem PU.reads (hR : g.HR lk ms h H) (I : L2.Inv X pins σ H s) (hK : X.K = g.K) : ∀ {xs : List PV} {us : List Value} {ds : List PyData}, PU g ms H xs us → Paired (fun x y => dd h x = some y) xs ds → PySem.W.EachIs (fun u (q : PV × PyData) => ∃ as, Reads s.heap u q.2 as) us (xs.zip ds)
  | _, _, _, .nil, .nil => .nil
  | _, _, _, .cons ⟨v, r, e⟩ b, .cons c d => .cons (dat_reads hR I hK r e c) (PU.reads hR I hK b d)
theorem zip_ds : ∀ {xs : List PV} {ds : List PyData}, Paired (fun x y => dd h x = some y) xs ds → (xs.zip ds).map (·.2) = ds
  | _, _, .nil => rfl
  | _, _, .cons _ d => by rw [List.zip_cons_cons, List.map_cons, zip_ds d]
theorem zip_xs : ∀ {xs : List PV} {ds : List PyData}, Paired (fun x y => dd h x = some y) xs ds → (xs.zip ds).map (·.1) = xs
  | _, _, .nil => rfl
  | _, _, .cons _ d => by rw [List.zip_cons_cons, List.map_cons, zip_xs d]
theorem each_back : ∀ {us : List Value} {qs : List (PV × PyData)}, PySem.W.EachIs (IR g ms H) us qs → ∃ vs, g.Rps H ms (qs.map (·.1)) vs ∧ Vals vs us
  | _, _, .nil => ⟨[], .nil, .nil⟩
  | _, _, .cons ⟨v, a, b⟩ t => let ⟨vs, c, d⟩ := each_back t; ⟨v :: vs, .cons a c, .cons b d⟩
theorem alike_of {ds : List PyData} (e : alikeAllB ds = true) : PySem.W.AllAlike ds := fun d hd d' hd' => by
  unfold alikeAllB at e
  exact List.all_eq_true.mp (List.all_eq_true.mp e d hd) d' hd'
theorem sortable_of {ds : List PyData} (e : sortableB ds = true) : PySem.W.Sortable ds := by
  unfold sortableB at e
  rw [Bool.or_eq_true] at e
  rcases e with e | e
  · refine .inl fun d hd => ?_
    have := List.all_eq_true.mp e d hd
    split at this
    · exact ⟨_, _, rfl⟩
    · cases this
  · refine .inr fun d hd => ?_
    have := List.all_eq_true.mp e d hd
    split at this
    · exact ⟨fun z => (nomatch z), fun _ z => (nomatch z)⟩
    · exact ⟨fun z => (nomatch z), fun _ z => (nomatch z)⟩
    · exact ⟨fun z => (nomatch z), fun _ z => (nomatch z)⟩
    · cases this
theorem sortBy_length (xs : List PV) (ds : List PyData) : (sortBy xs ds).length ≤ xs.length := by
  unfold sortBy
  rw [List.length_map, List.length_mergeSort, List.length_zip]
  exact Nat.min_le_left _ _
theorem dd_depths {n : Nat} : ∀ {xs : List PV} {ds : List PyData}, Paired (fun x y => dat h n x = some y) xs ds → ∀ q ∈ xs.zip ds, q.2.depth ≤ n
  | _, _, .nil, q, m => by simp at m
  | _, _, .cons c d, q, m => by
    rw [List.zip_cons_cons] at m
    rcases List.mem_cons.mp m with e | m
    · subst e; exact dat_depth h n c
    · exact dd_depths d q m
mutual
theorem reads_lt {hp : Heap} : ∀ {v : Value} {d : PyData} {as : List Addr}, Reads hp v d as → ∀ a ∈ as, a < hp.objs.size
  | _, _, _, .none, _, m => nomatch m
  | _, _, _, .bool _, _, m => nomatch m
  | _, _, _, .int _ _, _, m => nomatch m
  | _, _, _, .str _ _, _, m => nomatch m
  | _, _, _, .list e _ _ r, a, m => by
    rcases List.mem_cons.mp m with rfl | m
    · exact Heap.lt_size e
    · exact readsAll_lt r a m
  | _, _, _, .tuple e _ _ r, a, m => readsAll_lt r a m
  | _, _, _, .dict e _ _ r1 r2, a, m => by
    rcases List.mem_append.mp m with m | m
    · rcases List.mem_cons.mp m with rfl | m
      · exact Heap.lt_size e
      · exact readsAll_lt r1 a m
    · exact readsAll_lt r2 a m
theorem readsAll_lt {hp : Heap} : ∀ {v : List Value} {d : List PyData} {as : List Addr}, ReadsAll hp v d as → ∀ a ∈ as, a < hp.objs.size
  | _, _, _, .nil, _, m => nomatch m
  | _, _, _, .cons r t, a, m => by
    rcases List.mem_append.mp m with m | m
    · exact reads_lt r a m
    · exact readsAll_lt t a m
end

/-! ### sorted -/
/-- what sorted says of the items -/
theorem sorts {xs ys : List PV} {us : List Value} (e : sortV h xs = some ys) (pu : PU g ms H xs us) : ∃ ds, ys = sortBy xs ds ∧ Paired (fun x y => dd h x = some y) xs ds ∧ PySem.W.AllAlike ((xs.zip ds).map (·.2)) ∧ PySem.W.Sortable ((xs.zip ds).map (·.2)) ∧ (xs.zip ds).length = xs.length := by
  unfold sortV at e
  split at e
  · rename_i ds hd
    split at e
    · rename_i c
      cases e
      rw [Bool.and_eq_true] at c
      have pd := optAll_map hd
      exact ⟨ds, rfl, pd, by rw [zip_ds pd]; exact alike_of c.1, by rw [zip_ds pd]; exact sortable_of c.2, by rw [List.length_zip, ← Paired.length pd, Nat.min_self]⟩
    · cases e
  · cases e
theorem sorted_lst (hK : X.K = g.K) (hu : X.A.units + 64 < cLine) (hR : g.HR lk ms h H) (I : L2.Inv X pins σ H s) {xs ys : List PV} {Q : VK} {u : Value} {v : V} (eh : h[l]? = some (.lst xs) ∨ h[l]? = some (.rol xs)) (rp : g.Rp H ms (.ref l) v) (ru : RelV v u) (e : sortV h xs = some ys)
    (q : ∀ ms' H' w, Keep ms H ms' H' → g.HR lk ms' (h ++ [.lst ys]) H' → g.Rp H' ms' (.ref h.length) w → Q w H') : wpAny (model X.prog X.w) X.A (call (.builtin "sorted") [u]) (EP X pins σ Q) X.xe s := by
  obtain ⟨a, vs, f1, s1, r1, z⟩ := HR.anyl hR eh
  have := Rp.ref_at rp f1
  subst this
  cases ru
  obtain ⟨its, rv, pl, hz⟩ := I.list (hK ▸ s1)
  have pu := PU.of r1 rv
  obtain ⟨ds, rfl, pd, hal, hk, hlen⟩ := sorts e pu
  refine PySem.W.sorted_data (R := IR g ms H) (bs := xs.zip ds) (enc := fun q => q.2) pl.isList (PU.each pu pd) (PU.reads hR I hK pu pd) hal hk (by rw [hlen]; exact z) (fun b hb => by have := dd_depths pd b hb; omega) fun out hl ho => ?_
  obtain ⟨ep, he'⟩ := PyProof.Rows.sortedAll_at s.heap its out.toArray
  obtain ⟨ws, w1, w2⟩ := each_back ho
  have w1' : g.Rps H ms (sortBy xs ds) ws := w1
  have zl : (sortBy xs ds).length ≤ sizeLine := Nat.le_trans (sortBy_length xs ds) z
  obtain ⟨k, hR', rp'⟩ := HR.newL hR (I.hok.fresh (Nat.le_succ s.heap.objs.size)) zl w1'
  exact ⟨.ref _, _, I.laid (t' := s.toks) (fun _ _ => PyProof.Rows.sortedAll_old) (Nat.le_succ _) (show ObjOk X.prog X.w _ _ _ (.lst ws) from ⟨by rw [← w1'.length]; exact zl, out, ep, w2, he'⟩), rfl, q _ _ _ k hR' rp'⟩
theorem sorted_dct (hc : X.calm = true) (hK : X.K = g.K) (hu : X.A.units + 64 < cLine) (hR : g.HR lk ms h H) (I : L2.Inv X pins σ H s) {kvs : List (PV × PV)} {n : Nat} {ys : List PV} {Q : VK} {u : Value} {v : V} (eh : h[l]? = some (.dct kvs n)) (rp : g.Rp H ms (.ref l) v) (ru : RelV v u) (e : sortV h (kvs.map (·.1)) = some ys)
    (q : ∀ ms' H' w, Keep ms H ms' H' → g.HR lk ms' (h ++ [.lst ys]) H' → g.Rp H' ms' (.ref h.length) w → Q w H') : wpAny (model X.prog X.w) X.A (call (.builtin "sorted") [u]) (EP X pins σ Q) X.xe s := by
  obtain ⟨a, o, es, ep, D⟩ := HR.dct hR I eh
  have ey := D.ref rp
  subst ey
  cases ru
  have dr : s.heap.DictRaw a es ep := ⟨o, D.get, D.ex, D.da⟩
  have hsz : es.size = kvs.length := by rw [← Array.length_toList]; exact (Paired.length D.en).symm
  refine Calls.call_function_entry PyProof.Rows.kind_sorted PyProof.Rows.plain_sorted PyProof.Rows.entry_sorted (PyProof.Rows.args_sorted1 _) ?_
  unfold Builtin.«sorted»
  refine wpAny_bind (m := checkCount "sorted" 1 1 _) (wpAny_pure ?_)
  refine wpAny_bind (PySem.W.kdu_collect (A := X.A.in1) (PySem.KdlSrc.rawDict D.ns) (I.ok.hd hc) dr (by rw [hsz]; exact D.z) fun h' tk acc hk hacc => ?_)
  have eacc : acc.toList = es.toList.map (·.key) := by
    refine List.ext_getElem? fun i => ?_
    have e1 : acc.toList[i]? = acc[i]? := Array.getElem?_toList
    rw [e1, List.getElem?_map]
    have e2 : es.toList[i]? = es[i]? := Array.getElem?_toList
    rw [e2]
    by_cases hi : i < es.size
    · have hi' : i < acc.size := by rw [hacc.1]; exact hi
      rw [Array.getElem?_eq_getElem hi', Array.getElem?_eq_getElem hi]
      obtain ⟨_, e3⟩ := hacc.2 i acc[i] (Array.getElem?_eq_getElem hi')
      rw [e3]; rfl
    · rw [Array.getElem?_eq_none (by rw [hacc.1]; omega), Array.getElem?_eq_none (by omega)]; rfl
  have I1 : L2.Inv X pins σ H { s with heap := h', toks := tk } := I.kept hk
  have pu : PU g ms H (kvs.map (·.1)) acc.toList := by rw [eacc]; exact PU.keys D.en
  obtain ⟨ds, rfl, pd, hal, hks, hlen⟩ := sorts e pu
  have hxl : (kvs.map (·.1)).length = kvs.length := List.length_map _
  have hal2 : acc.toList.length = kvs.length := by rw [← Paired.length pu, hxl]
  refine wpAny_bind (wpAny_newList ?_ (by rw [hal2]; exact D.z))
  have hoL : (h'.push (seqObj "list" acc.toList.toArray 0)).get? h'.objs.size = some (seqObj "list" acc.toList.toArray 0) := Heap.get?_push_size _ rfl
  show wpAny _ _ _ _ _ { s with heap := h'.push (seqObj "list" acc.toList.toArray 0), toks := tk }
  refine wpAny_bind (wpAny_holding ?_)
  have er := PU.reads hR I1 hK pu pd
  refine PySem.W.list_sort_data (s := { s with heap := h'.push (seqObj "list" acc.toList.toArray 0), toks := tk }) (R := IR g ms H) (bs := (kvs.map (·.1)).zip ds) (enc := fun q => q.2) hoL (PU.each pu pd)
    (er.mono fun u q ⟨as, r⟩ => ⟨as, PyProof.Rows.Reads.keeps (fun b o e => Heap.get?_push_of_some _ e) r, fun m => Nat.lt_irrefl _ (reads_lt r _ m)⟩) hal hks (by rw [hlen, hxl]; exact D.z) (fun b hb => by have := dd_depths pd b hb; show X.A.units + 1 + 1 + _ < _; omega) fun out hl ho => ?_
  obtain ⟨e', he'⟩ := PyProof.Rows.sortedHeap_at (vs := acc.toList) (out := out.toArray) hoL
  obtain ⟨ws, w1, w2⟩ := each_back ho
  have w1' : g.Rps H ms (sortBy (kvs.map (·.1)) ds) ws := w1
  have zl : (sortBy (kvs.map (·.1)) ds).length ≤ sizeLine := Nat.le_trans (sortBy_length _ ds) (by rw [hxl]; exact D.z)
  obtain ⟨k, hR', rp'⟩ := HR.newL hR (I1.hok.fresh (Nat.le_refl _)) zl w1'
  refine wpAny_pure ⟨_, rfl, .ref h'.objs.size, _, I1.laid (t' := tk) (fun b u e => ?_) (Nat.le_refl _) (show ObjOk X.prog X.w _ _ _ (.lst ws) from ⟨by rw [← w1'.length]; exact zl, out, e', w2, he'⟩), rfl, q _ _ _ k hR' rp'⟩
  have hb : b < h'.objs.size := Heap.lt_size e
  rw [PyProof.Rows.sortedHeap_old (Nat.ne_of_lt hb) (by rw [size_push']; exact Nat.lt_succ_of_lt hb)]
  exact Heap.get?_push_of_some _ e
end
end Z
end

section
set_option Elab.async false
set_option linter.all false
set_option maxRecDepth 100000
set_option autoImplicit false
set_option maxHeartbeats 2000000
/-! S7: min, max; the built-ins' calls. -/
namespace Z
open PySem PySem.Spec PyProof.Rows L2

/-- what is walked once by a built-in -/
def IterW (P : Program) (w : World) (A : Around) (a : Addr) (n : Nat) (F : Nat → Value → Prop) (s : Shared) : Prop := ∀ (E : Value → Shared → Prop) (Q : Value → Shared → Prop),
  (∀ (s₂ : Shared) (o : Obj) (St : Nat → Shared → Prop), s₂ = { s with heap := s.heap.push o } → WalksS P w A s.heap.objs.size [s.heap.objs.size, a] [s.heap.objs.size] (fun a b => b = a) n F St → St 0 s₂ → (∀ b ∈ [s.heap.objs.size, a], b < s₂.heap.objs.size) →
    (∀ b o, s.heap.get? b = some o → s₂.heap.get? b = some o) → Q (.ref s.heap.objs.size) s₂) → wpAny (model P w) A (pyIter (.ref a)) Q E s
theorem iter_dictW {P : Program} {w : World} {A : Around} {E : Value → Shared → Prop} {s : Shared} {d : Addr} {es : Array DictEntry} {ep : Nat} (hh : A.handled = none) (hd : (d == sysModules) = false) (hm : s.heap.DictRaw d es ep) :
    IterW P w A d es.size (fun i v => ∃ hi : i < es.size, v = es[i].key) s := by
  intro E Q h
  have hlt : d < s.heap.objs.size := by obtain ⟨_, e, _⟩ := hm; exact Heap.lt_size e
  refine wpAny_pyIter_dict_raw hd hm (h _ _ _ rfl (Walks.rawKeys (A := A) hh _ d (Nat.ne_of_lt hlt) es ep).toS ⟨⟨_, Heap.get?_push_size _ rfl, rfl, rfl⟩, hm.at fun o e => Heap.get?_push_of_some _ e⟩ (fun b hb => ?_) fun b o e => Heap.get?_push_of_some _ e)
  show b < (s.heap.push _).objs.size
  rw [Heap.size_push]
  rcases List.mem_cons.mp hb with rfl | hb
  · exact Nat.lt_succ_self _
  · rcases List.mem_cons.mp hb with rfl | hb
    · exact Nat.lt_succ_of_lt hlt
    · cases hb
theorem iter_lstW {P : Program} {w : World} {A : Around} {s : Shared} {l : Addr} {vs : Array Value} (hh : A.handled = none) (hl : s.heap.IsList l vs) : IterW P w A l vs.size (fun i v => vs[i]? = some v) s := by
  intro E Q h
  exact PySem.W.iter_listW hh hl fun s₂ e W st hb _ hk => h s₂ _ _ e W st hb hk
theorem iter_tupW {P : Program} {w : World} {A : Around} {s : Shared} {l : Addr} {vs : Array Value} (hh : A.handled = none) (hl : s.heap.IsTuple l vs) : IterW P w A l vs.size (fun i v => vs[i]? = some v) s := by
  intro E Q h
  exact PySem.W.iter_tupleW hh hl fun s₂ e W st hb _ hk => h s₂ _ _ e W st hb hk

section
variable {prog : Program} {w : World} {A : Around} {E : Value → Shared → Prop} {s : Shared} {a : Addr} {us : List Value} {ds : List PyData} {F : Nat → Value → Prop} {Q : Value → Shared → Prop}
theorem min_go (it : IterW prog w A.in1 a us.length F s) (hF : ∀ i v, F i v → us[i]? = some v) {as : List Addr} (hr : ReadsAll s.heap us ds as) (ha : PySem.W.AlikeAll ds) (hu : A.units + 1 + PyData.depthAll ds < cLine) (hn : 0 < us.length)
    (h : ∀ v h' tk, us[argBest (fun i j => PySem.W.dataLt (ds.getD i .none) (ds.getD j .none)) (us.length - 1)]? = some v → (∀ b o, s.heap.get? b = some o → h'.get? b = some o) → Q v { s with heap := h', toks := tk }) :
    wpAny (model prog w) A (call (.builtin "min") [.ref a]) Q E s := by
  refine call_min_walkH (it _ _ fun s₂ o St e W st hfp hk => ?_)
  refine ⟨_, _, _, _, _, _, _, s.heap, fun i j => PySem.W.dataLt (ds.getD i .none) (ds.getD j .none), rfl, W, st, hfp, hn, fun b o e hb => absurd (Heap.lt_size e) ((List.mem_singleton.mp hb) ▸ Nat.lt_irrefl _), hk, ?_, fun v s' hP m => ?_⟩
  · intro i j vi vj s' Q E hk hi hj hq
    exact PySem.W.cmpIn_lt (A := A.in1) (vs := us.toArray) (s := s) (prog := prog) (w := w) (by simpa using hr) ha hu i j vi vj s' Q E hk (by simpa using hF i vi hi) (by simpa using hF j vj hj) hq
  · obtain ⟨h', tk, rfl, hk'⟩ := PySem.W.moved_old e rfl m
    exact h v h' tk (hF _ _ hP) hk'
theorem max_go (it : IterW prog w A.in1 a us.length F s) (hF : ∀ i v, F i v → us[i]? = some v) {as : List Addr} (hr : ReadsAll s.heap us ds as) (ha : PySem.W.AlikeAll ds) (hu : A.units + 1 + PyData.depthAll ds < cLine) (hn : 0 < us.length)
    (h : ∀ v h' tk, us[argBest (fun i j => PySem.W.dataLt (ds.getD j .none) (ds.getD i .none)) (us.length - 1)]? = some v → (∀ b o, s.heap.get? b = some o → h'.get? b = some o) → Q v { s with heap := h', toks := tk }) :
    wpAny (model prog w) A (call (.builtin "max") [.ref a]) Q E s := by
  refine call_max_walkH (it _ _ fun s₂ o St e W st hfp hk => ?_)
  refine ⟨_, _, _, _, _, _, _, s.heap, fun i j => PySem.W.dataLt (ds.getD j .none) (ds.getD i .none), rfl, W, st, hfp, hn, fun b o e hb => absurd (Heap.lt_size e) ((List.mem_singleton.mp hb) ▸ Nat.lt_irrefl _), hk, ?_, fun v s' hP m => ?_⟩
  · intro i j vi vj s' Q E hk hi hj hq
    exact PySem.W.cmpIn_gt (A := A.in1) (vs := us.toArray) (s := s) (prog := prog) (w := w) (by simpa using hr) ha hu i j vi vj s' Q E hk (by simpa using hF i vi hi) (by simpa using hF j vj hj) hq
  · obtain ⟨h', tk, rfl, hk'⟩ := PySem.W.moved_old e rfl m
    exact h v h' tk (hF _ _ hP) hk'
end
/-- the first least one's place -/
theorem least_at {qs : List (PV × PyData)} {p : PV × PyData} (e : leastBy qs = some p) : qs[argBest (fun i j => PySem.W.dataLt ((qs.map (·.2)).getD i .none) ((qs.map (·.2)).getD j .none)) (qs.length - 1)]? = some p := by
  cases qs with
  | nil => cases e
  | cons x r =>
    cases e
    obtain ⟨h1, h2⟩ := PySem.W.argBest_fold (fun (q m : PV × PyData) => PySem.W.dataLt q.2 m.2) (PV.non, PyData.none) x r r.length (Nat.le_refl _)
    have eb : (fun i j => PySem.W.dataLt (((x :: r).map (·.2)).getD i .none) (((x :: r).map (·.2)).getD j .none)) = fun i j => (fun (q m : PV × PyData) => PySem.W.dataLt q.2 m.2) ((x :: r).getD i (PV.non, PyData.none)) ((x :: r).getD j (PV.non, PyData.none)) := by
      funext i j
      have gd : ∀ k, ((x :: r).map (·.2)).getD k .none = ((x :: r).getD k (PV.non, PyData.none)).2 := fun k => by
        rw [List.getD_eq_getElem?_getD, List.getD_eq_getElem?_getD, List.getElem?_map]
        cases (x :: r)[k]? <;> rfl
      rw [gd, gd]
    rw [List.take_length] at h2
    have hl : (x :: r).length - 1 = r.length := by simp
    rw [hl, eb]
    rw [← h2, List.getD_eq_getElem?_getD, List.getElem?_eq_getElem (Nat.lt_of_le_of_lt h1 (by rw [List.length_cons]; exact Nat.lt_succ_self _))]
    rfl
theorem most_at {qs : List (PV × PyData)} {p : PV × PyData} (e : mostBy qs = some p) : qs[argBest (fun i j => PySem.W.dataLt ((qs.map (·.2)).getD j .none) ((qs.map (·.2)).getD i .none)) (qs.length - 1)]? = some p := by
  cases qs with
  | nil => cases e
  | cons x r =>
    cases e
    obtain ⟨h1, h2⟩ := PySem.W.argBest_fold (fun (q m : PV × PyData) => PySem.W.dataLt m.2 q.2) (PV.non, PyData.none) x r r.length (Nat.le_refl _)
    have eb : (fun i j => PySem.W.dataLt (((x :: r).map (·.2)).getD j .none) (((x :: r).map (·.2)).getD i .none)) = fun i j => (fun (q m : PV × PyData) => PySem.W.dataLt m.2 q.2) ((x :: r).getD i (PV.non, PyData.none)) ((x :: r).getD j (PV.non, PyData.none)) := by
      funext i j
      have gd : ∀ k, ((x :: r).map (·.2)).getD k .none = ((x :: r).getD k (PV.non, PyData.none)).2 := fun k => by
        rw [List.getD_eq_getElem?_getD, List.getD_eq_getElem?_getD, List.getElem?_map]
        cases (x :: r)[k]? <;> rfl
      rw [gd, gd]
    rw [List.take_length] at h2
    have hl : (x :: r).length - 1 = r.length := by simp
    rw [hl, eb]
    rw [← h2, List.getD_eq_getElem?_getD, List.getElem?_eq_getElem (Nat.lt_of_le_of_lt h1 (by rw [List.length_cons]; exact Nat.lt_succ_self _))]
    rfl

section
variable {X : Cx} {g : Gm} {lk : Addr → Option Obj} {ms : List Addr} {h : PH} {H : Hp} {l : Nat} {a : Addr} {pins : List (Addr × Obj)} {s : Shared} {σ : L2.St}
/-- what a built-in walks: the machine's items, in each state that keeps the heap -/
theorem seq_src (hK : X.K = g.K) (hR : g.HR lk ms h H) (I : L2.Inv X pins σ H s) {p : PV} {v : V} {u : Value} {xs : List PV} (rp : g.Rp H ms p v) (ru : RelV v u) (e : seqV p h = some xs) :
    ∃ a us F, u = .ref a ∧ PU g ms H xs us ∧ xs.length ≤ sizeLine ∧ (∀ i v, F i v → us[i]? = some v) ∧
      ∀ (A : Around) (s' : Shared), A.handled = none → (∀ b o, s.heap.get? b = some o → s'.heap.get? b = some o) → IterW X.prog X.w A a us.length F s' := by
  unfold seqV at e
  split at e
  · split at e
    · rename_i ys eh
      cases e
      obtain ⟨a, vs, f1, s1, r1, z⟩ := HR.anyl hR (.inl eh)
      have := Rp.ref_at rp f1
      subst this
      cases ru
      obtain ⟨its, rv, pl, hz⟩ := I.list (hK ▸ s1)
      exact ⟨a, its, _, rfl, PU.of r1 rv, z, fun i v e => by simpa using e, fun A s' hh hk => by
        have := iter_lstW (P := X.prog) (w := X.w) (A := A) (s := s') (l := a) (vs := its.toArray) hh (let ⟨o, ho, x⟩ := pl.isList; ⟨o, hk _ _ ho, x⟩)
        simpa using this⟩
    · rename_i ys eh
      cases e
      obtain ⟨a, vs, f1, s1, r1, z⟩ := HR.anyl hR (.inr eh)
      have := Rp.ref_at rp f1
      subst this
      cases ru
      obtain ⟨its, rv, pl, hz⟩ := I.list (hK ▸ s1)
      exact ⟨a, its, _, rfl, PU.of r1 rv, z, fun i v e => by simpa using e, fun A s' hh hk => by
        have := iter_lstW (P := X.prog) (w := X.w) (A := A) (s := s') (l := a) (vs := its.toArray) hh (let ⟨o, ho, x⟩ := pl.isList; ⟨o, hk _ _ ho, x⟩)
        simpa using this⟩
    · rename_i kvs n eh
      cases e
      obtain ⟨a, o, es, ep, D⟩ := HR.dct hR I eh
      have ey := D.ref rp
      subst ey
      cases ru
      have dr : s.heap.DictRaw a es ep := ⟨o, D.get, D.ex, D.da⟩
      refine ⟨a, es.toList.map (·.key), fun i v => ∃ hi : i < es.size, v = es[i].key, rfl, PU.keys D.en, by rw [List.length_map]; exact D.z, fun i v e => ?_, fun A s' hh hk => ?_⟩
      · obtain ⟨hi, rfl⟩ := e
        rw [List.getElem?_map, Array.getElem?_toList, Array.getElem?_eq_getElem hi]
        rfl
      · have := iter_dictW (P := X.prog) (w := X.w) (A := A) (E := fun _ _ => False) (s := s') (d := a) (es := es) (ep := ep) hh D.ns (dr.at fun o e => hk _ _ e)
        simpa using this
    · cases e
  · cases e
    obtain ⟨a, vs, rfl, s1, r1⟩ := rp.tup_of
    cases ru
    obtain ⟨its, rv, pl, hz⟩ := I.tuple (hK ▸ s1)
    exact ⟨a, its, _, rfl, PU.of r1 rv, by rw [r1.length]; exact hz, fun i v e => by simpa using e, fun A s' hh hk => by
      have := iter_tupW (P := X.prog) (w := X.w) (A := A) (s := s') (l := a) (vs := its.toArray) hh (let ⟨o, ho, x⟩ := pl; ⟨o, hk _ _ ho, x⟩)
      simpa using this⟩
  · cases e
theorem depthAll_le {n : Nat} : ∀ {ds : List PyData}, (∀ d ∈ ds, d.depth ≤ n) → PyData.depthAll ds ≤ n
  | [], _ => by simp [PyData.depthAll]
  | d :: ds, hd => by
    have h1 := hd d List.mem_cons_self
    have h2 := depthAll_le (ds := ds) fun e he => hd e (List.mem_cons_of_mem _ he)
    simp only [PyData.depthAll]
    omega
/-- what min, max say of the items -/
theorem leasts {ds : List PyData} (e : (alikeAllB ds && sortableB ds) = true) : PySem.W.AlikeAll ds := by
  rw [Bool.and_eq_true] at e
  refine ⟨fun x hx y hy => alike_of e.1 x hx y hy, fun x hx z => ?_⟩
  subst z
  rcases sortable_of e.2 with q | q
  · obtain ⟨_, _, z⟩ := q _ hx; cases z
  · exact (q _ hx).1 rfl
theorem PU.readsAll (hR : g.HR lk ms h H) (I : L2.Inv X pins σ H s) (hK : X.K = g.K) {xs : List PV} {us : List Value} {ds : List PyData} (pu : PU g ms H xs us) (pd : Paired (fun x y => dd h x = some y) xs ds) : ∃ as, ReadsAll s.heap us ds as := by
  have := PySem.W.each_readsAll (fun (q : PV × PyData) => q.2) (PU.reads hR I hK pu pd)
  rw [zip_ds pd] at this
  exact this
theorem PU.at {xs : List PV} {us : List Value} {ds : List PyData} {i : Nat} {q : PV × PyData} {u : Value} (pu : PU g ms H xs us) (e : (xs.zip ds)[i]? = some q) (eu : us[i]? = some u) : ∃ v, g.Rp H ms q.1 v ∧ RelV v u := by
  rw [List.getElem?_zip_eq_some] at e
  obtain ⟨u', e1, r⟩ := Paired.get pu e.1
  rw [eu] at e1
  cases e1
  exact r
theorem min_run (hK : X.K = g.K) (hR : g.HR lk ms h H) (I : L2.Inv X pins σ H s) {p k : PV} {v : V} {u : Value} {xs : List PV} (rp : g.Rp H ms p v) (ru : RelV v u) (e : seqV p h = some xs) (em : minV h xs = some k) {A : Around} (hh : A.handled = none) (hu : A.units + 64 < cLine)
    {s' : Shared} (hk : ∀ b o, s.heap.get? b = some o → s'.heap.get? b = some o) {Q : Value → Shared → Prop} {E : Value → Shared → Prop}
    (q : ∀ w y h' tk, g.Rp H ms k w → RelV w y → (∀ b o, s'.heap.get? b = some o → h'.get? b = some o) → Q y { s' with heap := h', toks := tk }) : wpAny (model X.prog X.w) A (call (.builtin "min") [u]) Q E s' := by
  obtain ⟨a, us, F, rfl, pu, z, hF, it⟩ := seq_src hK hR I rp ru e
  unfold minV at em
  split at em
  · rename_i ds hd
    split at em
    · rename_i c
      have pd := optAll_map hd
      obtain ⟨qk, e1, rfl⟩ := Option.map_eq_some_iff.mp em
      have e2 := least_at e1
      rw [zip_ds pd] at e2
      have hxl : (xs.zip ds).length = us.length := by rw [List.length_zip, ← Paired.length pd, Nat.min_self, Paired.length pu]
      rw [hxl] at e2
      have hpos : 0 < us.length := by
        rw [← hxl]
        cases hz : xs.zip ds with
        | nil => rw [hz] at e1; cases e1
        | cons _ _ => simp
      obtain ⟨as, hr⟩ := PU.readsAll hR I hK pu pd
      have hdep : PyData.depthAll ds ≤ 12 := depthAll_le fun d hd => by
        rw [← zip_ds pd] at hd
        obtain ⟨q, hq, rfl⟩ := List.mem_map.mp hd
        exact dd_depths pd q hq
      refine min_go (it A.in1 s' hh hk) hF (PyProof.Rows.ReadsAll.keeps hk hr) (leasts c) (by omega) hpos fun y h' tk ey hk' => ?_
      obtain ⟨w, r1, r2⟩ := PU.at pu e2 ey
      exact q w y h' tk r1 r2 hk'
    · cases em
  · cases em
theorem max_run (hK : X.K = g.K) (hR : g.HR lk ms h H) (I : L2.Inv X pins σ H s) {p k : PV} {v : V} {u : Value} {xs : List PV} (rp : g.Rp H ms p v) (ru : RelV v u) (e : seqV p h = some xs) (em : maxV h xs = some k) {A : Around} (hh : A.handled = none) (hu : A.units + 64 < cLine)
    {s' : Shared} (hk : ∀ b o, s.heap.get? b = some o → s'.heap.get? b = some o) {Q : Value → Shared → Prop} {E : Value → Shared → Prop}
    (q : ∀ w y h' tk, g.Rp H ms k w → RelV w y → (∀ b o, s'.heap.get? b = some o → h'.get? b = some o) → Q y { s' with heap := h', toks := tk }) : wpAny (model X.prog X.w) A (call (.builtin "max") [u]) Q E s' := by
  obtain ⟨a, us, F, rfl, pu, z, hF, it⟩ := seq_src hK hR I rp ru e
  unfold maxV at em
  split at em
  · rename_i ds hd
    split at em
    · rename_i c
      have pd := optAll_map hd
      obtain ⟨qk, e1, rfl⟩ := Option.map_eq_some_iff.mp em
      have e2 := most_at e1
      rw [zip_ds pd] at e2
      have hxl : (xs.zip ds).length = us.length := by rw [List.length_zip, ← Paired.length pd, Nat.min_self, Paired.length pu]
      rw [hxl] at e2
      have hpos : 0 < us.length := by
        rw [← hxl]
        cases hz : xs.zip ds with
        | nil => rw [hz] at e1; cases e1
        | cons _ _ => simp
      obtain ⟨as, hr⟩ := PU.readsAll hR I hK pu pd
      have hdep : PyData.depthAll ds ≤ 12 := depthAll_le fun d hd => by
        rw [← zip_ds pd] at hd
        obtain ⟨q, hq, rfl⟩ := List.mem_map.mp hd
        exact dd_depths pd q hq
      refine max_go (it A.in1 s' hh hk) hF (PyProof.Rows.ReadsAll.keeps hk hr) (leasts c) (by omega) hpos fun y h' tk ey hk' => ?_
      obtain ⟨w, r1, r2⟩ := PU.at pu e2 ey
      exact q w y h' tk r1 r2 hk'
    · cases em
  · cases em

/-! ### the calls -/
/-- sorted(x, key=min) -/
theorem nil_of_key {hp : Heap} : True := trivial
mutual
theorem reads_nil {n : Nat} : ∀ {p : PV} {k : NestedKey} {d : PyData} {u : Value} {as : List Addr} {hp : Heap}, nkey p = some k → dat h n p = some d → Reads hp u d as → as = []
  | .int i, k, d, u, as, hp, e1, e2, r => by
    cases n <;> simp [dat] at e2 <;> subst e2 <;> cases r <;> rfl
  | .str i, k, d, u, as, hp, e1, e2, r => by
    cases n <;> simp [dat] at e2 <;> subst e2 <;> cases r <;> rfl
  | .tup xs, k, d, u, as, hp, e1, e2, r => by
    cases n with
    | zero => simp [dat] at e2
    | succ n =>
      simp only [dat, Option.map_eq_some_iff] at e2
      obtain ⟨ds, e3, rfl⟩ := e2
      rw [nkey, Option.map_eq_some_iff] at e1
      obtain ⟨ks, e4, _⟩ := e1
      cases r with
      | tuple _ _ _ r => exact readsAll_nil e4 (optAll_map e3) r
  | .non, k, d, u, as, hp, e1, e2, r => by simp [nkey] at e1
  | .bl _, k, d, u, as, hp, e1, e2, r => by simp [nkey] at e1
  | .ref _, k, d, u, as, hp, e1, e2, r => by simp [nkey] at e1
  | .exc _, k, d, u, as, hp, e1, e2, r => by simp [nkey] at e1
  | .ro _, k, d, u, as, hp, e1, e2, r => by simp [nkey] at e1
theorem readsAll_nil {n : Nat} : ∀ {p : List PV} {k : List NestedKey} {d : List PyData} {u : List Value} {as : List Addr} {hp : Heap}, nkeys p = some k → Paired (fun x y => dat h n x = some y) p d → ReadsAll hp u d as → as = []
  | [], k, d, u, as, hp, e1, e2, r => by
    cases e2; cases r; rfl
  | x :: xs, k, d, u, as, hp, e1, e2, r => by
    cases e2 with
    | cons c t =>
      rw [nkeys] at e1
      cases hx : nkey x with
      | none => rw [hx] at e1; simp at e1
      | some kx =>
        cases hxs : nkeys xs with
        | none => rw [hx, hxs] at e1; simp at e1
        | some kxs =>
          cases r with
          | cons r1 r2 => rw [reads_nil hx c r1, readsAll_nil hxs t r2]; rfl
end
theorem key_of {k : PV} (e : okKey k = true) : ∃ nk, nkey k = some nk := by
  unfold okKey at e
  split at e
  · rename_i nk q; exact ⟨nk, q⟩
  · cases e
theorem optAll_get {α β : Type} {f : α → Option β} {xs : List α} {ys : List β} (e : optAll (xs.map f) = some ys) {q : α × β} (m : q ∈ xs.zip ys) : f q.1 = some q.2 := by
  have := optAll_map e
  clear e
  induction this with
  | nil => simp at m
  | cons r t ih =>
    rw [List.zip_cons_cons] at m
    rcases List.mem_cons.mp m with rfl | m
    · exact r
    · exact ih m
theorem sorted_key (hc : X.calm = true) (hK : X.K = g.K) (hu : X.A.units + 70 < cLine) (hR : g.HR lk ms h H) (I : L2.Inv X pins σ H s) {xs ks : List PV} {ds : List PyData} {Q : VK} {u : Value} {v : V} (eh : h[l]? = some (.lst xs) ∨ h[l]? = some (.rol xs)) (rp : g.Rp H ms (.ref l) v) (ru : RelV v u)
    (ek : optAll (xs.map fun x => (seqV x h).bind (minV h)) = some ks) (ed : optAll (ks.map (dd h)) = some ds) (ok : ks.all okKey = true) (c : (alikeAllB ds && sortableB ds) = true)
    (q : ∀ ms' H' w, Keep ms H ms' H' → g.HR lk ms' (h ++ [.lst (sortBy xs ds)]) H' → g.Rp H' ms' (.ref h.length) w → Q w H') : wpAny (model X.prog X.w) X.A (call (.builtin "sorted") [u] [(Str.ofString "key", .builtin "min")]) (EP X pins σ Q) X.xe s := by
  obtain ⟨a, vs, f1, s1, r1, z⟩ := HR.anyl hR eh
  have := Rp.ref_at rp f1
  subst this
  cases ru
  obtain ⟨its, rv, pl, hz⟩ := I.list (hK ▸ s1)
  have pu := PU.of r1 rv
  have pk := optAll_map ek
  have pd := optAll_map ed
  have hlk : ks.length = xs.length := (Paired.length pk).symm
  have hld : ds.length = xs.length := by rw [← Paired.length pd, hlk]
  have hzl : (xs.zip ds).length = xs.length := by rw [List.length_zip, hld, Nat.min_self]
  have hzd : (xs.zip ds).map (·.2) = ds := by
    have : ∀ (xs : List PV) (ds : List PyData), ds.length = xs.length → (xs.zip ds).map (·.2) = ds := by
      intro xs
      induction xs with
      | nil => intro ds e; cases ds with
        | nil => rfl
        | cons _ _ => cases e
      | cons x xs ih => intro ds e; cases ds with
        | nil => cases e
        | cons d ds => rw [List.zip_cons_cons, List.map_cons, ih ds (by simpa using e)]
    exact this xs ds hld
  have each : PySem.W.EachIs (IR g ms H) its (xs.zip ds) := by
    have : ∀ {xs : List PV} {us : List Value} (ds : List PyData), ds.length = xs.length → PU g ms H xs us → PySem.W.EachIs (IR g ms H) us (xs.zip ds) := by
      intro xs us ds e p
      induction p generalizing ds with
      | nil => exact .nil
      | cons a t ih => cases ds with
        | nil => cases e
        | cons d ds => exact .cons a (ih ds (by simpa using e))
    exact this ds hld pu
  -- each item's key
  have item : ∀ q ∈ xs.zip ds, ∃ ys kp, seqV q.1 h = some ys ∧ minV h ys = some kp ∧ okKey kp = true ∧ dd h kp = some q.2 := by
    intro q hq
    obtain ⟨i, hi⟩ := List.mem_iff_getElem?.mp hq
    rw [List.getElem?_zip_eq_some] at hi
    obtain ⟨kp, e1, e2⟩ := Paired.get pk hi.1
    obtain ⟨d', e3, e4⟩ := Paired.get pd e1
    rw [hi.2] at e3
    cases e3
    cases hs : seqV q.1 h with
    | none => rw [hs] at e2; cases e2
    | some ys => rw [hs] at e2; exact ⟨ys, kp, rfl, e2, List.all_eq_true.mp ok kp (List.mem_of_getElem? e1), e4⟩
  rw [Bool.and_eq_true] at c
  refine PySem.W.sorted_key_data (f := .builtin "min") (b := false) (R := IR g ms H) (bs := xs.zip ds) (k := fun q => q.2) pl.isList each (by rw [hzd]; exact alike_of c.1) (by rw [hzd]; exact sortable_of c.2) (by rw [hzl]; exact z) (fun b hb => ?_) ?_ (fun _ => ?_) (fun _ => ?_) (fun v' x hr hx hp tk hk => ?_) fun out c' h' tk hk hf hg hl ho => ?_
  · obtain ⟨_, kp, _, _, _, e⟩ := item b hb
    have := dat_depth h 12 e
    omega
  · first | exact PyProof.Rows.args_sorted_key _ _ | exact (by unfold argsOk; kernel_rfl)
  · first | exact PyProof.Rows.args_list_sort_key _ _ | exact (by unfold argsOk; kernel_rfl)
  · rfl
  · obtain ⟨w, w1, w2⟩ := hr
    obtain ⟨ys, kp, e1, e2, e3, e4⟩ := item x hx
    refine min_run hK hR I w1 w2 e1 e2 (A := X.A.in1.in1) (I.ok.hd hc) (by show X.A.units + 1 + 1 + 64 < _; omega) (s' := { s with heap := hp, toks := tk }) hk fun w' y h2 tk2 q1 q2 hk2 => ?_
    obtain ⟨as, rd⟩ := dat_reads hR I hK q1 q2 e4
    obtain ⟨nk, en⟩ := key_of e3
    have := reads_nil en e4 rd
    subst this
    exact ⟨h2, tk2, rfl, hk2, PyProof.Rows.Reads.keeps (fun b o e => hk2 b o (hk b o e)) rd⟩
  · obtain ⟨ws, w1, w2⟩ := each_back ho
    have w1' : g.Rps H ms (sortBy xs ds) ws := w1
    have zl : (sortBy xs ds).length ≤ sizeLine := Nat.le_trans (sortBy_length xs ds) z
    obtain ⟨k, hR', rp'⟩ := HR.newL hR (I.hok.fresh (Nat.le_succ s.heap.objs.size)) zl w1'
    exact ⟨.ref _, _, I.laid (t' := tk) hk (Nat.le_succ _) (show ObjOk X.prog X.w _ _ _ (.lst ws) from ⟨by rw [← w1'.length]; exact zl, out, c', w2, hg⟩), rfl, q _ _ _ k hR' rp'⟩
end
end Z
end

section
set_option Elab.async false
set_option linter.all false
set_option maxRecDepth 100000
set_option autoImplicit false
set_option maxHeartbeats 2000000
/-! S8: the built-ins' calls, isinstance. -/
namespace Z
open PySem PySem.Spec PyProof.Rows L2

def biF : BI → Value
  | .len => .builtin "len"
  | .abs => .builtin "abs"
  | .max2 => .builtin "max"
  | .min2 => .builtin "min"
  | .max1 => .builtin "max"
  | .min1 => .builtin "min"
  | .sum => .builtin "sum"
  | .sorted => .builtin "sorted"
  | .sortedMin => .builtin "sorted"
  | .set => .type "set"
  | .list => .type "list"
  | .tuple => .type "tuple"
  | .dict => .type "dict"
  | .int => .type "int"
  | .str => .type "str"
  | .all => .builtin "all"
section
variable {X : Cx} {g : Gm} {lk : Addr → Option Obj} {ms : List Addr} {h : PH} {H : Hp} {l : Nat} {a : Addr} {pins : List (Addr × Obj)} {s : Shared} {σ : L2.St}
theorem lst_of {v : PV} {xs : List PV} (e : isLst v h = true) (es : seqV v h = some xs) : ∃ l, v = .ref l ∧ (h[l]? = some (.lst xs) ∨ h[l]? = some (.rol xs)) := by
  unfold isLst at e
  unfold seqV at es
  split at e
  · split at e
    · rename_i ys eh
      simp only [eh] at es
      cases es
      exact ⟨_, rfl, .inl eh⟩
    · rename_i ys eh
      simp only [eh] at es
      cases es
      exact ⟨_, rfl, .inr eh⟩
    · cases e
  · cases e
/-- one argument -/
theorem call1 {F : Value} {f : PV → PH → Option (PV × PH)} (hf : ∀ (pins : List (Addr × Obj)) (s : Shared) (σ : L2.St) (H : Hp) (x : V) (u : Value) (Q : VK) (lk : Addr → Option Obj) (ms : List Addr) (h : PH) (p : PV), L2.Inv X pins σ H s → RelV x u → g.HR lk ms h H → g.Rp H ms p x → PostR g lk ms H (rV g) (ofO (f p h)) Q (fun _ _ _ => False) →
    wpAny (model X.prog X.w) X.A (call F [u]) (EP X pins σ Q) X.xe s) : CallR X F (vN g (on1 f)) := by
  intro pins s σ H xs us Q I rs hh
  obtain ⟨lk, ms, h, ps, hR, rp, P⟩ := hh
  rcases ps with _ | ⟨p, _ | ⟨p2, t⟩⟩
  · exact False.elim P
  · obtain ⟨x, rfl, r1⟩ := Rps.inv1 rp
    obtain ⟨u, rfl, rx⟩ := vals1 rs
    exact hf pins s σ H x u Q lk ms h p I rx hR r1 P
  · exact False.elim P
theorem call2 {F : Value} {f : PV → PV → PH → Option (PV × PH)} (hf : ∀ (pins : List (Addr × Obj)) (s : Shared) (σ : L2.St) (H : Hp) (x y : V) (u u2 : Value) (Q : VK) (lk : Addr → Option Obj) (ms : List Addr) (h : PH) (p q : PV), L2.Inv X pins σ H s → RelV x u → RelV y u2 → g.HR lk ms h H → g.Rp H ms p x → g.Rp H ms q y → PostR g lk ms H (rV g) (ofO (f p q h)) Q (fun _ _ _ => False) →
    wpAny (model X.prog X.w) X.A (call F [u, u2]) (EP X pins σ Q) X.xe s) : CallR X F (vN g (on2 f)) := by
  intro pins s σ H xs us Q I rs hh
  obtain ⟨lk, ms, h, ps, hR, rp, P⟩ := hh
  rcases ps with _ | ⟨p, _ | ⟨p2, _ | ⟨p3, t⟩⟩⟩
  · exact False.elim P
  · exact False.elim P
  · obtain ⟨x, y, rfl, r1, r2⟩ := Rps.inv2 rp
    obtain ⟨u1, u2, rfl, q1, q2⟩ := vals2 rs
    exact hf pins s σ H x y u1 u2 Q lk ms h p p2 I q1 q2 hR r1 r2 P
  · exact False.elim P
theorem vs1 {x : V} {u : Value} (r : RelV x u) : Vals [x] [u] := .cons r .nil
theorem vs2 {x y : V} {u w : Value} (r : RelV x u) (q : RelV y w) : Vals [x, y] [u, w] := .cons r (.cons q .nil)
theorem bi_len (hK : X.K = g.K) : CallR X (biF .len) (vN g (biV .len)) := call1 fun pins s σ H x u Q lk ms h p I rx hR r1 P => by
  unfold lenV at P
  split at P
  · split at P
    · rename_i hz
      cases r1
      exact call_len pins s σ H _ _ Q I (vs1 rx) ⟨_, _, rfl, ⟨hz, rfl⟩, PostR.intro (h' := h) P Keep.refl hR .int⟩
    · exact P.elim
  · rename_i ys
    obtain ⟨a, vs, rfl, s1, r2⟩ := r1.tup_of
    rw [r2.length] at P
    exact call_len pins s σ H _ _ Q I (vs1 rx) ⟨_, _, rfl, .inr ⟨vs, hK ▸ s1, rfl⟩, PostR.intro (h' := h) P Keep.refl hR .int⟩
  · rename_i ys
    obtain ⟨a, vs, rfl, s1, r2⟩ := r1.ro_of
    rw [r2.length] at P
    exact call_len pins s σ H _ _ Q I (vs1 rx) ⟨_, _, rfl, .inl ⟨vs, hK ▸ s1.seq, rfl⟩, PostR.intro (h' := h) P Keep.refl hR .int⟩
  · rename_i l
    split at P
    · rename_i ys eh
      obtain ⟨a, vs, f1, s1, r2, z⟩ := HR.anyl hR (.inl eh)
      have := Rp.ref_at r1 f1
      subst this
      rw [r2.length] at P
      exact call_len pins s σ H _ _ Q I (vs1 rx) ⟨_, _, rfl, .inl ⟨vs, hK ▸ s1, rfl⟩, PostR.intro (h' := h) P Keep.refl hR .int⟩
    · rename_i ys eh
      obtain ⟨a, vs, f1, s1, r2, z⟩ := HR.anyl hR (.inr eh)
      have := Rp.ref_at r1 f1
      subst this
      rw [r2.length] at P
      exact call_len pins s σ H _ _ Q I (vs1 rx) ⟨_, _, rfl, .inl ⟨vs, hK ▸ s1, rfl⟩, PostR.intro (h' := h) P Keep.refl hR .int⟩
    · rename_i kvs n eh
      obtain ⟨a, o, es, ep, D⟩ := HR.dct hR I eh
      have ey := D.ref r1
      subst ey
      cases rx
      have dr : s.heap.DictRaw a es ep := ⟨o, D.get, D.ex, D.da⟩
      have hsz : es.size = kvs.length := by rw [← Array.length_toList]; exact (Paired.length D.en).symm
      have hz := D.z
      have h63 := line63
      have hs := sizeLine_eq
      refine PyProof.Rows.call_len_slot (n := (es.size : Int)) dr.typeIs PySem.F.slot_dict_len (fun Q' hq => call_len_raw D.ns dr hq) (by omega) (by omega) ?_
      exact ⟨.int es.size, H, I.tok _, ⟨_, rfl⟩, by rw [hsz]; exact PostR.intro (h' := h) P Keep.refl hR .int⟩
    · exact P.elim
  · exact P.elim
theorem bi_abs : CallR X (biF .abs) (vN g (biV .abs)) := call1 fun pins s σ H x u Q lk ms h p I rx hR r1 P => by
  unfold absV at P
  split at P
  · cases r1
    exact call_abs pins s σ H _ _ Q I (vs1 rx) ⟨_, rfl, PostR.intro (h' := h) P Keep.refl hR .int⟩
  · exact P.elim
theorem bi_int : CallR X (biF .int) (vN g (biV .int)) := call1 fun pins s σ H x u Q lk ms h p I rx hR r1 P => by
  unfold intV at P
  split at P
  · cases r1
    exact call_int1 pins s σ H _ _ Q I (vs1 rx) (.inl ⟨_, rfl, PostR.intro (h' := h) P Keep.refl hR .int⟩)
  · cases r1
    exact call_int1 pins s σ H _ _ Q I (vs1 rx) (.inr ⟨_, rfl, PostR.intro (h' := h) P Keep.refl hR .int⟩)
  · exact P.elim
theorem bi_str : CallR X (biF .str) (vN g (biV .str)) := call1 fun pins s σ H x u Q lk ms h p I rx hR r1 P => by
  unfold strV at P
  split at P
  · split at P
    · rename_i hz
      cases r1
      exact call_str_int pins s σ H _ _ Q I (vs1 rx) ⟨_, rfl, hz, PostR.intro (h' := h) P Keep.refl hR .str⟩
    · exact P.elim
  · exact P.elim
theorem bi_max2 (hc : X.calm = true) : CallR X (biF .max2) (vN g (biV .max2)) := call2 fun pins s σ H x y u u2 Q lk ms h p q I rx ry hR r1 r2 P => by
  unfold max2V at P
  split at P
  · cases r1; cases r2
    exact call_max2 hc pins s σ H _ _ Q I (vs2 rx ry) ⟨_, _, rfl, PostR.intro (h' := h) P Keep.refl hR .int⟩
  · exact P.elim
theorem bi_min2 (hc : X.calm = true) : CallR X (biF .min2) (vN g (biV .min2)) := call2 fun pins s σ H x y u u2 Q lk ms h p q I rx ry hR r1 r2 P => by
  unfold min2V at P
  split at P
  · cases r1; cases r2
    exact call_min2 hc pins s σ H _ _ Q I (vs2 rx ry) ⟨_, _, rfl, PostR.intro (h' := h) P Keep.refl hR .int⟩
  · exact P.elim
theorem bi_sum (hc : X.calm = true) (hK : X.K = g.K) : CallR X (biF .sum) (vN g (biV .sum)) := call1 fun pins s σ H x u Q lk ms h p I rx hR r1 P => by
  unfold sumV at P
  split at P
  · rename_i hl
    split at P
    · rename_i is e
      obtain ⟨xs, e1, e2⟩ := Option.bind_eq_some_iff.mp e
      obtain ⟨l, rfl, eh⟩ := lst_of hl e1
      obtain ⟨a, vs, f1, s1, r2, z⟩ := HR.anyl hR eh
      have := Rp.ref_at r1 f1
      subst this
      have := Rps.ints r2 e2
      subst this
      exact cr_sum hc pins s σ H _ _ Q I (vs1 rx) ⟨a, is, rfl, hK ▸ s1, PostR.intro (h' := h) P Keep.refl hR .int⟩
    · exact P.elim
  · exact P.elim
theorem bi_all (hc : X.calm = true) (hK : X.K = g.K) : CallR X (biF .all) (vN g (biV .all)) := call1 fun pins s σ H x u Q lk ms h p I rx hR r1 P => by
  unfold allV at P
  split at P
  · rename_i hl
    split at P
    · rename_i is e
      obtain ⟨xs, e1, e2⟩ := Option.bind_eq_some_iff.mp e
      obtain ⟨l, rfl, eh⟩ := lst_of hl e1
      obtain ⟨a, vs, f1, s1, r2, z⟩ := HR.anyl hR eh
      have := Rp.ref_at r1 f1
      subst this
      have := Rps.bls r2 e2
      subst this
      exact cr_all hc pins s σ H _ _ Q I (vs1 rx) ⟨a, is, rfl, hK ▸ s1, PostR.intro (h' := h) P Keep.refl hR .bl⟩
    · exact P.elim
  · exact P.elim
theorem kept_state {h' : Heap} {tk : Nat} (I : L2.Inv X pins σ H s) (hk : ∀ b o, s.heap.get? b = some o → h'.get? b = some o) : L2.Inv X pins σ H { s with heap := h', toks := tk } := I.kept hk
theorem bi_min1 (hc : X.calm = true) (hK : X.K = g.K) (hu : X.A.units + 70 < cLine) : CallR X (biF .min1) (vN g (biV .min1)) := call1 fun pins s σ H x u Q lk ms h p I rx hR r1 P => by
  unfold min1V at P
  split at P
  · rename_i xs e
    cases em : minV h xs with
    | none => rw [em] at P; exact P.elim
    | some k =>
      rw [em] at P
      exact min_run hK hR I r1 rx e em (I.ok.hd hc) (by omega) (fun _ _ z => z) fun w y h' tk q1 q2 hk => ⟨w, H, I.kept hk, q2, PostR.intro (h' := h) P Keep.refl hR q1⟩
  · exact P.elim
theorem bi_max1 (hc : X.calm = true) (hK : X.K = g.K) (hu : X.A.units + 70 < cLine) : CallR X (biF .max1) (vN g (biV .max1)) := call1 fun pins s σ H x u Q lk ms h p I rx hR r1 P => by
  unfold max1V at P
  split at P
  · rename_i xs e
    cases em : maxV h xs with
    | none => rw [em] at P; exact P.elim
    | some k =>
      rw [em] at P
      exact max_run hK hR I r1 rx e em (I.ok.hd hc) (by omega) (fun _ _ z => z) fun w y h' tk q1 q2 hk => ⟨w, H, I.kept hk, q2, PostR.intro (h' := h) P Keep.refl hR q1⟩
  · exact P.elim
theorem seq_ref {l : Nat} {xs : List PV} (e : seqV (.ref l) h = some xs) : (h[l]? = some (.lst xs) ∨ h[l]? = some (.rol xs)) ∨ ∃ kvs n, h[l]? = some (.dct kvs n) ∧ xs = kvs.map (·.1) := by
  unfold seqV at e
  dsimp only at e
  split at e
  · rename_i ys eh; cases e; exact .inl (.inl eh)
  · rename_i ys eh; cases e; exact .inl (.inr eh)
  · rename_i kvs n eh; cases e; exact .inr ⟨kvs, n, eh, rfl⟩
  · cases e
theorem bi_sorted (hc : X.calm = true) (hK : X.K = g.K) (hu : X.A.units + 70 < cLine) : CallR X (biF .sorted) (vN g (biV .sorted)) := call1 fun pins s σ H x u Q lk ms h p I rx hR r1 P => by
  unfold sortedV at P
  split at P
  · rename_i l
    split at P
    · rename_i ys e
      obtain ⟨xs, e1, e2⟩ := Option.bind_eq_some_iff.mp e
      rcases seq_ref e1 with eh | ⟨kvs, n, eh, rfl⟩
      · exact sorted_lst hK (by omega) hR I eh r1 rx e2 fun ms' H' w k hR' r' => P.intro k hR' r'
      · exact sorted_dct hc hK (by omega) hR I eh r1 rx e2 fun ms' H' w k hR' r' => P.intro k hR' r'
    · exact P.elim
  · exact P.elim
/-- sorted(x, key=min) -/
def v1 (g : Gm) (f : PV → PH → Option (PV × PH)) : V → Hp → VK → Prop := fun x H Q => ∃ lk ms h p, g.HR lk ms h H ∧ g.Rp H ms p x ∧ PostR g lk ms H (rV g) (ofO (f p h)) Q (fun _ _ _ => False)
theorem ok_sortedMin (hc : X.calm = true) (hK : X.K = g.K) (hu : X.A.units + 70 < cLine) {x : V} {u : Value} {Q : VK} (I : L2.Inv X pins σ H s) (rx : RelV x u) (hh : v1 g sortedMinV x H Q) : wpAny (model X.prog X.w) X.A (call (.builtin "sorted") [u] [(Str.ofString "key", .builtin "min")]) (EP X pins σ Q) X.xe s := by
  obtain ⟨lk, ms, h, p, hR, r1, P⟩ := hh
  unfold sortedMinV at P
  split at P
  · rename_i hl
    split at P
    · rename_i xs e1
      split at P
      · rename_i ks ek
        split at P
        · rename_i ds ed
          split at P
          · rename_i c
            rw [Bool.and_eq_true] at c
            obtain ⟨l, rfl, eh⟩ := lst_of hl e1
            exact sorted_key hc hK hu hR I eh r1 rx ek ed c.1 c.2 fun ms' H' w k hR' r' => P.intro k hR' r'
          · exact P.elim
        · exact P.elim
      · exact P.elim
    · exact P.elim
  · exact P.elim
theorem bi_list (hc : X.calm = true) (hK : X.K = g.K) : CallR X (biF .list) (vN g (biV .list)) := call1 fun pins s σ H x u Q lk ms h p I rx hR r1 P => by
  unfold listV at P
  split at P
  · rename_i xs e
    unfold seqV at e
    split at e
    · split at e
      · rename_i ys eh
        cases e
        obtain ⟨a, vs, f1, s1, r2, z⟩ := HR.anyl hR (.inl eh)
        have := Rp.ref_at r1 f1
        subst this
        refine call_list_of pins s σ H _ _ Q I (vs1 rx) ⟨a, vs, rfl, .inl (hK ▸ s1), fun p np => ?_⟩
        obtain ⟨k, hR', r'⟩ := HR.newL hR np z r2
        exact P.intro k hR' r'
      · rename_i ys eh
        cases e
        obtain ⟨a, vs, f1, s1, r2, z⟩ := HR.anyl hR (.inr eh)
        have := Rp.ref_at r1 f1
        subst this
        refine call_list_of pins s σ H _ _ Q I (vs1 rx) ⟨a, vs, rfl, .inl (hK ▸ s1), fun p np => ?_⟩
        obtain ⟨k, hR', r'⟩ := HR.newL hR np z r2
        exact P.intro k hR' r'
      · rename_i kvs n eh
        cases e
        obtain ⟨a, o, es, ep, D⟩ := HR.dct hR I eh
        have ey := D.ref r1
        subst ey
        cases rx
        have dr : s.heap.DictRaw a es ep := ⟨o, D.get, D.ex, D.da⟩
        have hsz : es.size = kvs.length := by rw [← Array.length_toList]; exact (Paired.length D.en).symm
        refine PySem.W.kdl_call (PySem.KdlSrc.rawDict D.ns) (I.ok.hd hc) dr (by rw [hsz]; exact D.z) fun h' tk acc c' hk hD hacc => ?_
        have eacc : acc.toList = es.toList.map (·.key) := by
          refine List.ext_getElem? fun i => ?_
          have e1 : acc.toList[i]? = acc[i]? := Array.getElem?_toList
          rw [e1, List.getElem?_map]
          have e2 : es.toList[i]? = es[i]? := Array.getElem?_toList
          rw [e2]
          by_cases hi : i < es.size
          · have hi' : i < acc.size := by rw [hacc.1]; exact hi
            rw [Array.getElem?_eq_getElem hi', Array.getElem?_eq_getElem hi]
            obtain ⟨_, e3⟩ := hacc.2 i acc[i] (Array.getElem?_eq_getElem hi')
            rw [e3]; rfl
          · rw [Array.getElem?_eq_none (by rw [hacc.1]; omega), Array.getElem?_eq_none (by omega)]; rfl
        have pu : PU g ms H (kvs.map (·.1)) acc.toList := by rw [eacc]; exact PU.keys D.en
        obtain ⟨ws, w1, w2⟩ := PU.back pu
        have zl : (kvs.map (·.1)).length ≤ sizeLine := by rw [List.length_map]; exact D.z
        obtain ⟨k, hR', rp'⟩ := HR.newL hR (I.hok.fresh (Nat.le_refl _)) zl w1
        exact ⟨.ref s.heap.objs.size, _, I.laid (t' := tk) hk (Nat.le_refl _) (show ObjOk X.prog X.w _ _ _ (.lst ws) from ⟨by rw [← w1.length]; exact zl, acc.toList, c', w2, by rw [Array.toArray_toList]; exact hD⟩), rfl, P.intro k hR' rp'⟩
      · cases e
    · cases e
      obtain ⟨a, vs, rfl, s1, r2⟩ := r1.tup_of
      obtain ⟨its, rv, pl, hz⟩ := I.tuple (hK ▸ s1)
      refine call_list_of pins s σ H _ _ Q I (vs1 rx) ⟨a, vs, rfl, .inr (hK ▸ s1), fun p np => ?_⟩
      obtain ⟨k, hR', r'⟩ := HR.newL hR np (by rw [r2.length]; exact hz) r2
      exact P.intro k hR' r'
    · cases e
  · exact P.elim
theorem bi_tuple (hK : X.K = g.K) : CallR X (biF .tuple) (vN g (biV .tuple)) := call1 fun pins s σ H x u Q lk ms h p I rx hR r1 P => by
  unfold tupleV at P
  split at P
  · rename_i hl
    split at P
    · rename_i xs e1
      obtain ⟨l, rfl, eh⟩ := lst_of hl e1
      obtain ⟨a, vs, f1, s1, r2, z⟩ := HR.anyl hR eh
      have := Rp.ref_at r1 f1
      subst this
      refine call_tuple_of pins s σ H _ _ Q I (vs1 rx) ⟨a, vs, rfl, .inl ⟨hK ▸ s1, fun p np => ?_⟩⟩
      obtain ⟨k, hR', r'⟩ := HR.newT hR np r2
      exact P.intro k hR' r'
    · exact P.elim
  · exact P.elim
theorem bi_ok (hc : X.calm = true) (hK : X.K = g.K) (hu : X.A.units + 70 < cLine) (b : BI) (hb : b ≠ .sortedMin) : CallR X (biF b) (vN g (biV b)) := by
  cases b
  case sortedMin => exact absurd rfl hb
  case len => exact bi_len hK
  case abs => exact bi_abs
  case max2 => exact bi_max2 hc
  case min2 => exact bi_min2 hc
  case max1 => exact bi_max1 hc hK hu
  case min1 => exact bi_min1 hc hK hu
  case sum => exact bi_sum hc hK
  case sorted => exact bi_sorted hc hK hu
  case list => exact bi_list hc hK
  case tuple => exact bi_tuple hK
  case int => exact bi_int
  case str => exact bi_str
  case all => exact bi_all hc hK
  all_goals
    intro pins s σ H xs us Q I rs hh
    obtain ⟨lk, ms, h, ps, hR, rp, P⟩ := hh
    exact False.elim P
end
end Z
end

section
set_option Elab.async false
set_option linter.all false
set_option maxRecDepth 100000
set_option autoImplicit false
set_option maxHeartbeats 2000000
/-! S9: isinstance, methods of built-in types. -/
namespace Z
open PySem PySem.Spec PyProof.Rows L2

def tyS : Ty → String
  | .int => "int"
  | .bool => "bool"
  | .str => "str"
  | .tuple => "tuple"
  | .list => "list"
  | .dict => "dict"
  | _ => "object"
section
variable {X : Cx} {g : Gm} {lk : Addr → Option Obj} {ms : List Addr} {h : PH} {H : Hp} {l : Nat} {a : Addr} {pins : List (Addr × Obj)} {s : Shared} {σ : L2.St}
/-- the type's name -/
def nmV (p : PV) (h : PH) : Option String := match p with
  | .non => some "NoneType"
  | .bl _ => some "bool"
  | .int _ => some "int"
  | .str _ => some "str"
  | .tup _ => some "tuple"
  | .ref l => match h[l]? with
    | some (.lst _) => some "list"
    | some (.rol _) => some "list"
    | some (.dct _ _) => some "dict"
    | _ => none
  | .exc _ => none
  | .ro _ => none
theorem kit_p (hK : X.K = g.K) (hR : g.HR lk ms h H) (I : L2.Inv X pins σ H s) {p : PV} {x : V} {u : Value} {T : String} (rp : g.Rp H ms p x) (rx : RelV x u) (e : nmV p h = some T) : ∃ P : Heap → Prop, PySem.W.KitX X.K u (.type T) P ∧ P s.heap ∧ u ≠ .builtin "__main__.__loader__#opaque" := by
  unfold nmV at e
  split at e
  · cases e; cases rp; exact kit_of I rx (.base .non)
  · cases e; cases rp; exact kit_of I rx (.base (.bl _))
  · cases e; cases rp; exact kit_of I rx (.base (.int _))
  · cases e; cases rp; exact kit_of I rx (.base (.str _))
  · cases e
    obtain ⟨a, vs, rfl, s1, r1⟩ := rp.tup_of
    rw [← hK] at s1
    rcases s1 with (s1 | ⟨o, s1⟩) | ⟨o, its, n, s1, hc, _⟩
    · exact kit_of I rx (.base (.tup s1))
    · exact kit_of I rx (.fTuple s1)
    · exact kit_of I rx (.kTuple s1 hc)
  · split at e
    · rename_i xs eh
      cases e
      obtain ⟨a, vs, f1, s1, r1, z⟩ := HR.lst hR eh
      have := Rp.ref_at rp f1
      subst this
      exact kit_of I rx (.base (.lst s1))
    · rename_i xs eh
      cases e
      obtain ⟨a, z, z2, o, vs, s1, r1⟩ := hR.obj _ _ eh
      have := Rp.ref_at rp z
      subst this
      exact kit_of I rx (.base (.frz s1))
    · rename_i kvs n eh
      cases e
      obtain ⟨a, o, es, ep, D⟩ := HR.dct hR I eh
      have ey := D.ref rp
      subst ey
      cases rx
      exact ⟨_, PySem.W.kitx_dict, ⟨o, D.get, D.ex.1⟩, fun z => nomatch z⟩
    · cases e
  · cases e
  · cases e
theorem isi_kit {sub : Nat → Nat → Bool} {p : PV} {t : Ty} {b : Bool} (e : isiV sub p t h = some b) (ht : t ≠ .value) (ht2 : ∀ c, t ≠ .own c) : ∃ T, nmV p h = some T ∧ kitB T (tyS t) = some b := by
  unfold isiV at e
  cases t with
  | value => exact absurd rfl ht
  | own c => exact absurd rfl (ht2 c)
  | list =>
    cases p with
    | ref l =>
      dsimp only at e
      unfold nmV
      split at e <;> (try cases e) <;> (rename_i q; simp only [q]; exact ⟨_, rfl, by decide +kernel⟩)
    | exc _ => cases e
    | ro _ => cases e
    | _ => cases e; exact ⟨_, rfl, by decide +kernel⟩
  | dict =>
    cases p with
    | ref l =>
      dsimp only at e
      unfold nmV
      split at e <;> (try cases e) <;> (rename_i q; simp only [q]; exact ⟨_, rfl, by decide +kernel⟩)
    | exc _ => cases e
    | ro _ => cases e
    | _ => cases e; exact ⟨_, rfl, by decide +kernel⟩
  | _ =>
    cases p with
    | ref l =>
      dsimp only at e
      unfold nmV
      split at e <;> (try cases e) <;> (rename_i q; simp only [q]; exact ⟨_, rfl, by decide +kernel⟩)
    | exc _ => cases e
    | ro _ => cases e
    | _ => cases e; exact ⟨_, rfl, by decide +kernel⟩
def rIsiZ (g : Gm) (sub : Nat → Nat → Bool) (t : Ty) : List V → Hp → VK → Prop := fun xs H Q => ∃ lk ms h p x b, xs = [x, .ty (tyS t)] ∧ g.HR lk ms h H ∧ g.Rp H ms p x ∧ isiV sub p t h = some b ∧ Q (.bl b) H
theorem isi_ok (hK : X.K = g.K) {sub : Nat → Nat → Bool} {t : Ty} (ht : t ≠ .value) (ht2 : ∀ c, t ≠ .own c) : CallR X (.builtin "isinstance") (rIsiZ g sub t) := by
  intro pins s σ H xs us Q I r hh
  obtain ⟨lk, ms, h, p, x, b, rfl, hR, rp, e, q⟩ := hh
  obtain ⟨u1, u2, rfl, r1, r2⟩ := vals2 r
  obtain ⟨T, e1, e2⟩ := isi_kit e ht ht2
  obtain ⟨P, Z, hp, hx⟩ := kit_p hK hR I rp r1 e1
  cases r2
  exact PySem.W.kia_one Z I.kIn hp (kit_ty e2) hx fun tk => ⟨.bl b, H, I.tok tk, rfl, q⟩

/-! ### methods -/
theorem tyZ_is (hK : X.K = g.K) (hR : g.HR lk ms h H) (I : L2.Inv X pins σ H s) {p : PV} {x : V} {u : Value} {t : Ty} (rp : g.Rp H ms p x) (rx : RelV x u) (e : tyV t p h = true) : s.TypeIs u (tyS t) ∧ ∀ a, u = .ref a → ∃ ob, s.heap.get? a = some ob ∧ ob.dict = none := by
  unfold tyV at e
  split at e
  · cases rp
    obtain ⟨t, rfl⟩ := rx
    exact ⟨typeIs_str s _ t, fun _ e => nomatch e⟩
  · have : ∀ xs, h[‹Nat›]? = some (.lst xs) ∨ h[‹Nat›]? = some (.rol xs) → s.TypeIs u "list" ∧ ∀ a, u = .ref a → ∃ ob, s.heap.get? a = some ob ∧ ob.dict = none := by
      intro xs eh
      obtain ⟨a, vs, f1, s1, r1, z⟩ := HR.anyl hR eh
      have := Rp.ref_at rp f1
      subst this
      cases rx
      obtain ⟨its, _, pl, _⟩ := I.list (hK ▸ s1)
      refine ⟨pl.isList.typeIs, fun a e => ?_⟩
      cases e
      obtain ⟨o, n, e, c, hd, _⟩ := pl
      exact ⟨o, e, hd⟩
    split at e
    · rename_i xs eh; exact this xs (.inl eh)
    · rename_i xs eh; exact this xs (.inr eh)
    · cases e
  · split at e
    · rename_i kvs n eh
      obtain ⟨a, o, es, ep, D⟩ := HR.dct hR I eh
      have ey := D.ref rp
      subst ey
      cases rx
      refine ⟨⟨o, D.get, D.ex.1⟩, fun a e => ?_⟩
      cases e
      exact ⟨o, D.get, D.ex.2.1⟩
    · cases e
  · cases e
/-- a method by values -/
def vM (g : Gm) (f : PV → List PV → PH → Option (PV × PH)) : V → List V → Hp → VK → Prop := fun x xs H Q => ∃ lk ms h p ps, g.HR lk ms h H ∧ g.Rp H ms p x ∧ g.Rps H ms ps xs ∧ PostR g lk ms H (rV g) (ofO (f p ps h)) Q (fun _ _ _ => False)
def tyZ (g : Gm) (t : Ty) (x : V) (H : Hp) : Prop := ∃ lk ms h p, g.HR lk ms h H ∧ g.Rp H ms p x ∧ tyV t p h = true
def tBZ0 (g : Gm) (t : Ty) (r : V → List V → Hp → VK → Prop) (to : TE) : TE := fun σ H Q => to σ H fun x H1 => tyZ g t x H1 ∧ r x [] H1 Q
def tBZ (g : Gm) (T : Ty) (r : V → List V → Hp → VK → Prop) (to : TE) (t : TA) : TE := fun σ H Q => to σ H fun x H1 => tyZ g T x H1 ∧ t σ H1 fun xs H2 => r x xs H2 Q
variable {o e : Expr} {es : List Expr} {to : TE} {t : TA} {name : Str} {apos cpos : Pos} {T : Ty} {id : String} {r : V → List V → Hp → VK → Prop}
theorem pe_bmz0 (hK : X.K = g.K) (pa : PlainAttrs (tyS T)) (slot : Slot (tyS T) name id) (hty : typeOf (.builtin id) = pure (.type "method_descriptor")) (hm : MtR X id r) (ho : PE X o to)
    (hbase : attributeBase o name X.env (eval o X.env) = eval o X.env) (hline : (apos.endLine == cpos.line) = true) : PE X (.Call (.Attribute o name apos) [] [] cpos) (tBZ0 g T r to) := by
  refine ⟨fun pins s σ H Q I h => ?_⟩
  refine wpAny_Call_method0_late hbase hline (thn (ho.run pins s σ H _ I h) fun v s1 ⟨x, H1, I1, r1, ⟨lk, ms, h, p, hR, rp, ty⟩, q1⟩ => ?_)
  obtain ⟨h1, h2⟩ := tyZ_is hK hR I1 rp r1 ty
  exact ⟨tyS T, id, pa, slot, hty, h1, h2, Calls.callWith_builtin rfl (PySem.evalArgs_none (hm pins s1 σ H1 x [] v [] Q I1 r1 .nil q1))⟩
theorem pe_bmz (hK : X.K = g.K) (pa : PlainAttrs (tyS T)) (slot : Slot (tyS T) name id) (hty : typeOf (.builtin id) = pure (.type "method_descriptor")) (hm : MtR X id r) (ho : PE X o to) (ha : PA X (e :: es) t)
    (hbase : attributeBase o name X.env (eval o X.env) = eval o X.env)
    (hfew : ((backTo cpos (starEach (e :: es) X.env)).all (fun x => !x.1) && (backToKw cpos (keywordEach [] X.env)).all (fun x => x.1.isSome)
      && decide ((e :: es).length + ([] : List Keyword).length + (if ([] : List Keyword).isEmpty then 0 else 1) < 30)) = true)
    (hline : (apos.endLine == cpos.line) = true) (hs : starEach (e :: es) X.env = (false, eval e X.env) :: starEach es X.env) (hplain : (backTo cpos (starEach es X.env)).any (·.1) = false) :
    PE X (.Call (.Attribute o name apos) (e :: es) [] cpos) (tBZ g T r to t) := by
  refine ⟨fun pins s σ H Q I h => ?_⟩
  refine wpAny_Call_method_late hbase hfew hline rfl (thn (ho.run pins s σ H _ I h) fun v s1 ⟨x, H1, I1, r1, ⟨lk, ms, h, p, hR, rp, ty⟩, q1⟩ => ?_)
  obtain ⟨h1, h2⟩ := tyZ_is hK hR I1 rp r1 ty
  refine ⟨tyS T, id, pa, slot, hty, h1, h2, ?_⟩
  have hA := ha.run cpos pins s1 σ H1 _ I1 q1
  rw [hs] at hA ⊢
  refine Calls.callWith_builtin (by show (false || (backTo cpos (starEach es X.env)).any (·.1)) = false; rw [hplain] <;> rfl) (Calls.evalArgs_plain ?_)
  exact thn hA fun us s2 ⟨vs, H2, I2, r2, q2⟩ => hm pins s2 σ H2 x vs v us Q I2 r1 r2 q2
/-- by the number of arguments -/
theorem mt0 {f : PV → PH → Option (PV × PH)} (hf : ∀ (pins : List (Addr × Obj)) (s : Shared) (σ : L2.St) (H : Hp) (x : V) (u : Value) (Q : VK) (lk : Addr → Option Obj) (ms : List Addr) (h : PH) (p : PV), L2.Inv X pins σ H s → RelV x u → g.HR lk ms h H → g.Rp H ms p x → PostR g lk ms H (rV g) (ofO (f p h)) Q (fun _ _ _ => False) →
    wpAny (model X.prog X.w) X.A (call (.builtin id) [u]) (EP X pins σ Q) X.xe s) : MtR X id (vM g fun p => on0 (f p)) := by
  intro pins s σ H x xs v us Q I rx rs hh
  obtain ⟨lk, ms, h, p, ps, hR, rp, rps, P⟩ := hh
  cases ps with
  | nil => cases rps; cases rs; exact hf pins s σ H x v Q lk ms h p I rx hR rp P
  | cons _ _ => exact False.elim P
theorem mt1 {f : PV → PV → PH → Option (PV × PH)} (hf : ∀ (pins : List (Addr × Obj)) (s : Shared) (σ : L2.St) (H : Hp) (x y : V) (u u2 : Value) (Q : VK) (lk : Addr → Option Obj) (ms : List Addr) (h : PH) (p q : PV), L2.Inv X pins σ H s → RelV x u → RelV y u2 → g.HR lk ms h H → g.Rp H ms p x → g.Rp H ms q y → PostR g lk ms H (rV g) (ofO (f p q h)) Q (fun _ _ _ => False) →
    wpAny (model X.prog X.w) X.A (call (.builtin id) [u, u2]) (EP X pins σ Q) X.xe s) : MtR X id (vM g fun p => on1 (f p)) := by
  intro pins s σ H x xs v us Q I rx rs hh
  obtain ⟨lk, ms, h, p, ps, hR, rp, rps, P⟩ := hh
  rcases ps with _ | ⟨q, _ | ⟨q2, t⟩⟩
  · exact False.elim P
  · obtain ⟨y, rfl, r1⟩ := Rps.inv1 rps
    obtain ⟨u2, rfl, ry⟩ := vals1 rs
    exact hf pins s σ H x y v u2 Q lk ms h p q I rx ry hR rp r1 P
  · exact False.elim P
theorem mt2 {f : PV → PV → PV → PH → Option (PV × PH)} (hf : ∀ (pins : List (Addr × Obj)) (s : Shared) (σ : L2.St) (H : Hp) (x y z : V) (u u2 u3 : Value) (Q : VK) (lk : Addr → Option Obj) (ms : List Addr) (h : PH) (p q k : PV), L2.Inv X pins σ H s → RelV x u → RelV y u2 → RelV z u3 → g.HR lk ms h H → g.Rp H ms p x → g.Rp H ms q y → g.Rp H ms k z → PostR g lk ms H (rV g) (ofO (f p q k h)) Q (fun _ _ _ => False) →
    wpAny (model X.prog X.w) X.A (call (.builtin id) [u, u2, u3]) (EP X pins σ Q) X.xe s) : MtR X id (vM g fun p => on2 (f p)) := by
  intro pins s σ H x xs v us Q I rx rs hh
  obtain ⟨lk, ms, h, p, ps, hR, rp, rps, P⟩ := hh
  rcases ps with _ | ⟨q, _ | ⟨q2, _ | ⟨q3, t⟩⟩⟩
  · exact False.elim P
  · exact False.elim P
  · obtain ⟨y, z, rfl, r1, r2⟩ := Rps.inv2 rps
    obtain ⟨u2, u3, rfl, ry, rz⟩ := vals2 rs
    exact hf pins s σ H x y z v u2 u3 Q lk ms h p q q2 I rx ry rz hR rp r1 r2 P
  · exact False.elim P
def bmS : BM → String
  | .append => "list.append"
  | .get1 => "dict.get"
  | .get2 => "dict.get"
  | .pop0 => "list.pop"
  | .pop1 => "dict.pop"
  | .update => "dict.update"
  | .items => "dict.items"
  | .clear => "list.clear"
  | .setdefault => "dict.setdefault"
  | .extend => "list.extend"
  | .insert => "list.insert"
  | .index => "str.index"
  | .join => "str.join"
  | .split => "str.split"
  | .count => "str.count"
  | .partition => "str.partition"
theorem bm_append : MtR X (bmS .append) (vM g (bmV .append)) := mt1 fun pins s σ H x y u u2 Q lk ms h p q I rx ry hR rp rq P => by
  unfold appendV at P
  split at P
  · split at P
    · rename_i xs eh
      split at P
      · rename_i hz
        obtain ⟨a, vs, f1, s1, r1, z⟩ := HR.lst hR eh
        have := Rp.ref_at rp f1
        subst this
        refine mt_append pins s σ H _ _ u _ Q I rx (vs1 ry) ⟨a, vs, y, rfl, rfl, s1, by rw [← r1.length]; exact hz, ?_⟩
        obtain ⟨k, hR'⟩ := HR.putL hR f1 eh (by rw [List.length_append, List.length_singleton]; omega) (r1.snoc rq)
        exact P.intro k hR' .non
      · exact P.elim
    · exact P.elim
  · exact P.elim
theorem bm_clear : MtR X (bmS .clear) (vM g (bmV .clear)) := mt0 fun pins s σ H x u Q lk ms h p I rx hR rp P => by
  unfold clearV at P
  split at P
  · split at P
    · rename_i xs eh
      obtain ⟨a, vs, f1, s1, r1, z⟩ := HR.lst hR eh
      have := Rp.ref_at rp f1
      subst this
      refine mt_clear pins s σ H _ _ u _ Q I rx .nil ⟨a, vs, rfl, rfl, s1, ?_⟩
      obtain ⟨k, hR'⟩ := HR.putL (xs := []) (vs := []) hR f1 eh (Nat.zero_le _) .nil
      exact P.intro k hR' .non
    · exact P.elim
  · exact P.elim
theorem Rps.dropLast : ∀ {ps : List PV} {vs : List V}, g.Rps H ms ps vs → g.Rps H ms ps.dropLast vs.dropLast
  | _, _, .nil => .nil
  | _, _, .cons _ .nil => .nil
  | _, _, .cons a (.cons b t) => .cons a (Rps.dropLast (.cons b t))
theorem bm_pop0 : MtR X (bmS .pop0) (vM g (bmV .pop0)) := mt0 fun pins s σ H x u Q lk ms h p I rx hR rp P => by
  unfold pop0V at P
  split at P
  · split at P
    · rename_i xs eh
      split at P
      · rename_i w hw
        obtain ⟨a, vs, f1, s1, r1, z⟩ := HR.lst hR eh
        have := Rp.ref_at rp f1
        subst this
        rw [List.getLast?_eq_getElem?] at hw
        obtain ⟨wv, g1, g2⟩ := r1.get hw
        refine mt_pop pins s σ H _ _ u _ Q I rx .nil ⟨a, vs, wv, rfl, rfl, s1, by rw [← r1.length]; exact g1, ?_⟩
        obtain ⟨k, hR'⟩ := HR.putL (xs := xs.dropLast) (vs := vs.dropLast) hR f1 eh (by rw [List.length_dropLast]; omega) (Rps.dropLast r1)
        exact P.intro k hR' (Rp.ext hR k g2)
      · exact P.elim
    · exact P.elim
  · exact P.elim
theorem bm_get1 (hK : X.K = g.K) (hw : X.w = g.w) (hu : X.A.units + 70 < cLine) : MtR X (bmS .get1) (vM g (bmV .get1)) := mt1 fun pins s σ H x y u u2 Q lk ms h p q I rx ry hR rp rq P => by
  unfold get1V at P
  split at P
  · split at P
    · rename_i kvs n eh
      split at P
      · rename_i f
        exact ok_dget1 hK hw (by omega) hR I eh rp rx rq ry f fun w r => PostR.intro (h' := h) P Keep.refl hR r
      · exact P.elim
    · exact P.elim
  · exact P.elim
theorem bm_get2 (hK : X.K = g.K) (hw : X.w = g.w) (hu : X.A.units + 70 < cLine) : MtR X (bmS .get2) (vM g (bmV .get2)) := mt2 fun pins s σ H x y z u u2 u3 Q lk ms h p q k I rx ry rz hR rp rq rk P => by
  unfold get2V at P
  split at P
  · split at P
    · rename_i kvs n eh
      split at P
      · rename_i f
        exact ok_dget2 hK hw (by omega) hR I eh rp rx rq ry rk rz f fun w r => PostR.intro (h' := h) P Keep.refl hR r
      · exact P.elim
    · exact P.elim
  · exact P.elim
theorem bm_pop1 (hK : X.K = g.K) (hw : X.w = g.w) (hu : X.A.units + 70 < cLine) : MtR X (bmS .pop1) (vM g (bmV .pop1)) := mt1 fun pins s σ H x y u u2 Q lk ms h p q I rx ry hR rp rq P => by
  unfold pop1V at P
  split at P
  · split at P
    · rename_i kvs eh
      split at P
      · rename_i f
        rw [Bool.and_eq_true] at f
        split at P
        · rename_i w hv
          exact ok_dpop1 hK hw (by omega) hR I eh rp rx rq ry f.1 f.2 hv fun ms' H' w k hR' r => P.intro k hR' r
        · exact P.elim
      · exact P.elim
    · exact P.elim
  · exact P.elim
theorem bm_setdef (hK : X.K = g.K) (hw : X.w = g.w) (hu : X.A.units + 70 < cLine) : MtR X (bmS .setdefault) (vM g (bmV .setdefault)) := mt2 fun pins s σ H x y z u u2 u3 Q lk ms h p q k I rx ry rz hR rp rq rk P => by
  unfold setdefV at P
  split at P
  · split at P
    · rename_i kvs eh
      split at P
      · rename_i f
        rw [Bool.and_eq_true, Bool.and_eq_true] at f
        refine ok_dsetdef hK hw (by omega) hR I eh rp rx rq ry rk rz f.1 f.2.1 (of_decide_eq_true f.2.2) (fun p' hp w r => ?_) fun hp ms' H' w k hR' r => ?_
        · rw [hp] at P
          exact PostR.intro (h' := h) P Keep.refl hR r
        · rw [hp] at P
          exact P.intro k hR' r
      · exact P.elim
    · exact P.elim
  · exact P.elim
theorem bm_update (hK : X.K = g.K) (hw : X.w = g.w) (hu : X.A.units + 70 < cLine) : MtR X (bmS .update) (vM g (bmV .update)) := mt1 fun pins s σ H x y u u2 Q lk ms h p q I rx ry hR rp rq P => by
  unfold updateV at P
  split at P
  · split at P
    · rename_i kvs more n eh eh2
      split at P
      · rename_i f
        obtain ⟨c1, c2, c3, c4, c5⟩ := f
        exact ok_dupd hK hw (by omega) hR I eh eh2 c1 rp rx rq ry c2 c3 (fun p hp => List.all_eq_true.mp c4 p hp) (fun p hp => List.all_eq_true.mp c5 p hp) fun ms' H' k hR' => P.intro k hR' .non
      · exact P.elim
    · exact P.elim
  · exact P.elim
/-- the methods that the layer has -/
def bmOk : BM → Bool
  | .append => true
  | .clear => true
  | .pop0 => true
  | .get1 => true
  | .get2 => true
  | .pop1 => true
  | .setdefault => true
  | .update => true
  | _ => false
theorem bm_ok (hK : X.K = g.K) (hw : X.w = g.w) (hu : X.A.units + 70 < cLine) (m : BM) (hm : bmOk m = true) : MtR X (bmS m) (vM g (bmV m)) := by
  cases m
  case append => exact bm_append
  case clear => exact bm_clear
  case pop0 => exact bm_pop0
  case get1 => exact bm_get1 hK hw hu
  case get2 => exact bm_get2 hK hw hu
  case pop1 => exact bm_pop1 hK hw hu
  case setdefault => exact bm_setdef hK hw hu
  case update => exact bm_update hK hw hu
  all_goals exact absurd hm Bool.false_ne_true
def bmA : BM → Str
  | .append => "append"
  | .get1 => "get"
  | .get2 => "get"
  | .pop0 => "pop"
  | .pop1 => "pop"
  | .update => "update"
  | .items => "items"
  | .clear => "clear"
  | .setdefault => "setdefault"
  | .extend => "extend"
  | .insert => "insert"
  | .index => "index"
  | .join => "join"
  | .split => "split"
  | .count => "count"
  | .partition => "partition"
theorem bm_slot (m : BM) (hm : bmOk m = true) : Slot (tyS (bmT m)) (bmA m) (bmS m) := by
  cases m
  case append => exact F.slot_list_append
  case clear => exact F.slot_list_clear
  case pop0 => exact F.slot_list_pop
  case get1 => exact F.slot_dict_get
  case get2 => exact F.slot_dict_get
  case pop1 => exact F.slot_dict_pop
  case setdefault => exact F.slot_dict_setdefault
  case update => exact F.slot_dict_update
  all_goals exact absurd hm Bool.false_ne_true
theorem bm_ty (m : BM) (hm : bmOk m = true) : typeOf (.builtin (bmS m)) = pure (.type "method_descriptor") := by
  cases m
  case append => show builtinType _ = _; rw [builtinType_eq_fast]; kernel_rfl
  case clear => show builtinType _ = _; rw [builtinType_eq_fast]; kernel_rfl
  case pop0 => show builtinType _ = _; rw [builtinType_eq_fast]; kernel_rfl
  case get1 => show builtinType _ = _; rw [builtinType_eq_fast]; kernel_rfl
  case get2 => show builtinType _ = _; rw [builtinType_eq_fast]; kernel_rfl
  case pop1 => show builtinType _ = _; rw [builtinType_eq_fast]; kernel_rfl
  case setdefault => show builtinType _ = _; rw [builtinType_eq_fast]; kernel_rfl
  case update => show builtinType _ = _; rw [builtinType_eq_fast]; kernel_rfl
  all_goals exact absurd hm Bool.false_ne_true
theorem bm_pa (m : BM) : PlainAttrs (tyS (bmT m)) := by
  cases m
  all_goals first
    | exact F.plainAttrs_list
    | exact F.plainAttrs_dict
    | exact F.plainAttrs_str
end
end Z
end

section
set_option Elab.async false
set_option linter.all false
set_option maxRecDepth 100000
set_option autoImplicit false
set_option maxHeartbeats 2000000
/-! S10: the expressions' rules by the evaluator's results. -/
namespace Z
open PySem PySem.Spec PyProof.Rows L2

section
variable {X : Cx} {g : Gm} {G : Env} {W : WX} {pos p : Pos}
theorem r_var {i : Nat} {x : Str} (hN : X.N[i]? = some x) (hv : Vis X.env.scope x) (hd : (x == ("__debug__" : Str)) = false) (hc : (x == ("__classdict__" : Str)) = false) : PE X (.Name x pos) (tE g W (ev G (.var i))) :=
  (pe_var hN hv hd hc).mono fun σ H Q ⟨lk, ms, σp, h, hR, sl, P⟩ => by
    simp only [ev] at P
    split at P
    · rename_i v e
      obtain ⟨u, e1, r⟩ := sl.at_ e
      exact ⟨u, e1, PostR.intro (h' := h) P Keep.refl hR r⟩
    · exact False.elim P
theorem r_int {i : Int} {j : Nat} : PE X (.Constant (.int i) j pos) (tE g W (ev G (.int i))) := pe_int.mono fun σ H Q ⟨lk, ms, σp, h, hR, sl, P⟩ => by
  simp only [ev] at P
  exact PostR.intro (h' := h) P Keep.refl hR .int
theorem r_bl {i : Bool} {j : Nat} : PE X (.Constant (.bool i) j pos) (tE g W (ev G (.bl i))) := pe_bl.mono fun σ H Q ⟨lk, ms, σp, h, hR, sl, P⟩ => by
  simp only [ev] at P
  exact PostR.intro (h' := h) P Keep.refl hR .bl
theorem r_str {i : Str} {j : Nat} : PE X (.Constant (.str i) j pos) (tE g W (ev G (.str i))) := pe_str.mono fun σ H Q ⟨lk, ms, σp, h, hR, sl, P⟩ => by
  simp only [ev] at P
  exact PostR.intro (h' := h) P Keep.refl hR .str
theorem r_non {j : Nat} : PE X (.Constant .none j pos) (tE g W (ev G .non)) := pe_non.mono fun σ H Q ⟨lk, ms, σp, h, hR, sl, P⟩ => by
  simp only [ev] at P
  exact PostR.intro (h' := h) P Keep.refl hR .non
def opM : Op → Operator
  | .add => .Add
  | .sub => .Sub
  | .mul => .Mult
  | .fdiv => .FloorDiv
  | .mod => .Mod
  | .pow => .Pow
  | .bor => .BitOr
theorem ok_op (hK : X.K = g.K) (o : Op) : OpR X (binaryOp (opM o)) (v2 g (opV o)) := by
  cases o
  case add => exact ok_add hK
  case sub => exact ok_sub
  case mul => exact ok_mul
  case fdiv => exact ok_fdiv
  case mod => exact ok_mod
  case pow => exact ok_pow
  case bor =>
    intro pins s σ H x y v u Q I rx ry hh
    obtain ⟨lk, ms, h, p, q, hR, rp, rq, P⟩ := hh
    exact False.elim P
theorem r_op {a b : Expr} {ea eb : E} (hK : X.K = g.K) (o : Op) (ha : PE X a (tE g W (ev G ea))) (hb : PE X b (tE g W (ev G eb))) : PE X (.BinOp a (opM o) b pos) (tE g W (ev G (.op o ea eb))) :=
  (pe_op (ok_op hK o) ha hb).mono fun σ H Q h => seq2 (W := W) (da := ev G ea) (db := ev G eb) (f := fun x y h => ofO (opV o x y h)) (fun lk ms h p q x y H Q hR rp rq P => ⟨lk, ms, h, p, q, hR, rp, rq, PostR.ofO_any P⟩) (by simpa only [ev] using h)
theorem r_neg {a : Expr} {ea : E} (ha : PE X a (tE g W (ev G ea))) : PE X (.UnaryOp .USub a pos) (tE g W (ev G (.neg ea))) :=
  (pe_un un_neg ha).mono fun σ H Q h => seq1 (W := W) (da := ev G ea) (f := negR) (fun lk ms h p x H Q hR rp P => by
      unfold negR at P
      split at P
      · cases rp; exact ⟨_, rfl, PostR.intro (h' := h) P Keep.refl hR .int⟩
      · exact False.elim P) (by simpa only [ev] using h)
/-- the value's truth behind -/
theorem seqT {da : Sto → PH → Res PV} {σ : L2.St} {H : Hp} {α β : Type} {rel : Rel α β} {f : Bool → PV → PH → Res α} {Q : β → Hp → Prop} (hK : X.K = g.K)
    (h : tR g rel W (fun σ h => (da σ h).bind fun v h => (someR (truth v h) h).bind fun b h => f b v h) σ H Q) :
    tE g W da σ H fun x H1 => ∃ k, TruV X.K x H1 k ∧ ∃ lk ms σp h v, g.HR lk ms h H1 ∧ g.SlR H1 ms σp σ ∧ g.Rp H1 ms v x ∧ PostR g lk ms H1 rel (f k v h) Q (fun c d H' => W c d σ H') := by
  obtain ⟨lk, ms, σp, h, hR, sl, P⟩ := h
  refine ⟨lk, ms, σp, h, hR, sl, (P.bind (relA := rV g)).mono ?_⟩
  rintro x H1 ⟨ms1, h1, v, _, k1, hR1, rx, p1⟩
  cases e : truth v h1 with
  | none => rw [e] at p1; exact False.elim p1
  | some b =>
    rw [e] at p1
    exact ⟨b, tru_of hK hR1 rx e, lk, ms1, σp, h1, v, hR1, sl.ext hR k1, rx, p1⟩
theorem r_not {a : Expr} {ea : E} (hK : X.K = g.K) (ha : PE X a (tE g W (ev G ea))) : PE X (.UnaryOp .Not a pos) (tE g W (ev G (.not ea))) :=
  (pe_notT ha).mono fun σ H Q h => by
    have h' : tE g W (fun σ h => (ev G ea σ h).bind fun v h => (someR (truth v h) h).bind fun b h => .ok (.bl (!b)) h) σ H Q := by simpa only [ev] using h
    have := seqT (da := ev G ea) (f := fun b v h => .ok (PV.bl (!b)) h) hK h'
    obtain ⟨lk, ms, σp, h0, hR, sl, P⟩ := this
    refine ⟨lk, ms, σp, h0, hR, sl, P.mono ?_⟩
    rintro x H1 ⟨k, t, lk1, ms1, σp1, h1, v, hR1, sl1, rv, p1⟩
    exact ⟨k, t, p1.intro Keep.refl hR1 .bl⟩
theorem r_one {op : BoolOp} {a : Expr} {t : TE} (ha : PE X a t) : PE X (.BoolOp op [a] pos) t := pe_one ha
theorem r_and {a b : Expr} {rest : List Expr} {ea eb : E} {er : List E} (hK : X.K = g.K) (ha : PE X a (tE g W (ev G ea))) (hb : PE X (.BoolOp .And (b :: rest) pos) (tE g W (evAnd G (eb :: er)))) :
    PE X (.BoolOp .And (a :: b :: rest) pos) (tE g W (evAnd G (ea :: eb :: er))) :=
  (pe_andT ha hb).mono fun σ H Q h => by
    have h' : tE g W (fun σ h => (ev G ea σ h).bind fun v h0 => (someR (truth v h0) h0).bind fun b h => if b then evAnd G (eb :: er) σ h else .ok v h) σ H Q := by simpa only [evAnd] using h
    obtain ⟨lk, ms, σp, h0, hR, sl, P⟩ := h'
    refine ⟨lk, ms, σp, h0, hR, sl, (P.bind (relA := rV g)).mono ?_⟩
    rintro x H1 ⟨ms1, h1, v, _, k1, hR1, rx, p1⟩
    cases e : truth v h1 with
    | none => rw [e] at p1; exact False.elim p1
    | some b =>
      rw [e] at p1
      refine ⟨b, tru_of hK hR1 rx e, ?_⟩
      cases b with
      | true => exact ⟨lk, ms1, σp, h1, hR1, sl.ext hR k1, p1⟩
      | false => exact PostR.intro (v := v) (h' := h1) p1 Keep.refl hR1 rx
theorem r_or {a b : Expr} {rest : List Expr} {ea eb : E} {er : List E} (hK : X.K = g.K) (ha : PE X a (tE g W (ev G ea))) (hb : PE X (.BoolOp .Or (b :: rest) pos) (tE g W (evOr G (eb :: er)))) :
    PE X (.BoolOp .Or (a :: b :: rest) pos) (tE g W (evOr G (ea :: eb :: er))) :=
  (pe_orT ha hb).mono fun σ H Q h => by
    have h' : tE g W (fun σ h => (ev G ea σ h).bind fun v h0 => (someR (truth v h0) h0).bind fun b h => if b then .ok v h else evOr G (eb :: er) σ h) σ H Q := by simpa only [evOr] using h
    obtain ⟨lk, ms, σp, h0, hR, sl, P⟩ := h'
    refine ⟨lk, ms, σp, h0, hR, sl, (P.bind (relA := rV g)).mono ?_⟩
    rintro x H1 ⟨ms1, h1, v, _, k1, hR1, rx, p1⟩
    cases e : truth v h1 with
    | none => rw [e] at p1; exact False.elim p1
    | some b =>
      rw [e] at p1
      refine ⟨b, tru_of hK hR1 rx e, ?_⟩
      cases b with
      | false => exact ⟨lk, ms1, σp, h1, hR1, sl.ext hR k1, p1⟩
      | true => exact PostR.intro (v := v) (h' := h1) p1 Keep.refl hR1 rx
def cmM : Cm → CmpOp
  | .eq => .Eq
  | .ne => .NotEq
  | .lt => .Lt
  | .le => .LtE
  | .gt => .Gt
  | .ge => .GtE
  | .isn => .Is
  | .nisn => .IsNot
  | .isin => .In
  | .nin => .NotIn
theorem ok_cmp (hK : X.K = g.K) (hw : X.w = g.w) (hu : X.A.units + 70 < cLine) (c : Cm) : OpR X (compareOp (cmM c)) (vT g (cmpO c)) := by
  cases c
  case eq => exact ok_eq hK (by omega)
  case ne => exact ok_ne hK (by omega)
  case lt => exact ok_lt hK (by omega)
  case le => exact ok_le
  case gt => exact ok_gt
  case ge => exact ok_ge
  case isn => exact ok_isn
  case nisn => exact ok_nisn
  case isin => exact ok_isin hK hw (by omega) false
  case nin => exact ok_isin hK hw (by omega) true
theorem cmp_of {c : Cm} {x y : PV} {h : PH} {lk : Addr → Option Obj} {ms : List Addr} {H : Hp} {Q : VK} {W' : Value → Option Addr → Hp → Prop} (hR : g.HR lk ms h H)
    (P : PostR g lk ms H (rV g) ((someR (cmpO c x y h) h).bind fun b h => .ok (.bl b) h) Q W') : ∃ b, cmpO c x y h = some b ∧ Q (.bl b) H := by
  cases e : cmpO c x y h with
  | none => rw [e] at P; exact False.elim P
  | some b => rw [e] at P; exact ⟨b, rfl, PostR.intro (h' := h) P Keep.refl hR .bl⟩
theorem r_cmp {a b : Expr} {ea eb : E} (hK : X.K = g.K) (hw : X.w = g.w) (hu : X.A.units + 70 < cLine) (c : Cm) (ha : PE X a (tE g W (ev G ea))) (hb : PE X b (tE g W (ev G eb))) (hm : behindInMarks (cmM c) b = false) : PE X (.Compare a [cmM c] [b] pos) (tE g W (ev G (.cmp c ea eb))) :=
  (pe_cmpR (ok_cmp hK hw hu c) ha hb hm).mono fun σ H Q h => seq2 (W := W) (da := ev G ea) (db := ev G eb) (f := fun x y h => (someR (cmpO c x y h) h).bind fun b h => .ok (.bl b) h)
    (fun lk ms h p q x y H Q hR rp rq P => let ⟨b, e, q'⟩ := cmp_of hR P; ⟨lk, ms, h, p, q, b, hR, rp, rq, e, q'⟩) (by simpa only [ev] using h)
theorem chain_of {c d : Cm} {ea eb ee : E} {σ : L2.St} {H : Hp} {Q : VK} (h : tE g W (ev G (.chain c d ea eb ee)) σ H Q) : tChain (vT g (cmpO c)) (vT g (cmpO d)) (tE g W (ev G ea)) (tE g W (ev G eb)) (tE g W (ev G ee)) σ H Q := by
  obtain ⟨lk, ms, σp, h, hR, sl, P⟩ := h
  simp only [ev] at P
  refine ⟨lk, ms, σp, h, hR, sl, (P.bind (relA := rV g)).mono ?_⟩
  rintro x H1 ⟨ms1, h1, v, _, k1, hR1, rx, p1⟩
  refine ⟨lk, ms1, σp, h1, hR1, sl.ext hR k1, (p1.bind (relA := rV g)).mono ?_⟩
  rintro y H2 ⟨ms2, h2, u, _, k2, hR2, ry, p2⟩
  cases e : cmpO c v u h2 with
  | none => rw [e] at p2; exact False.elim p2
  | some b =>
    rw [e] at p2
    refine ⟨lk, ms2, h2, v, u, b, hR2, Rp.ext hR1 k2 rx, ry, e, b, rfl, ?_⟩
    cases b with
    | false => exact PostR.intro (v := PV.bl false) (h' := h2) p2 Keep.refl hR2 .bl
    | true =>
      have p2' : PostR g lk ms2 H2 (rV g) ((ev G ee σp h2).bind fun z h => (someR (cmpO d u z h) h).bind fun b h => .ok (.bl b) h) Q (fun c d H' => W c d σ H') := p2
      refine ⟨lk, ms2, σp, h2, hR2, (sl.ext hR k1).ext hR1 k2, (p2'.bind (relA := rV g)).mono ?_⟩
      rintro z H3 ⟨ms3, h3, w, _, k3, hR3, rz, p3⟩
      obtain ⟨b, e, q'⟩ := cmp_of hR3 p3
      exact ⟨lk, ms3, h3, u, w, b, hR3, Rp.ext hR2 k3 ry, rz, e, q'⟩
theorem r_chain {a b e : Expr} {ea eb ee : E} (hK : X.K = g.K) (hw : X.w = g.w) (hu : X.A.units + 70 < cLine) (c d : Cm) (ha : PE X a (tE g W (ev G ea))) (hb : PE X b (tE g W (ev G eb))) (he : PE X e (tE g W (ev G ee))) (hm : lastMarks [cmM c, cmM d] [b, e] = false) :
    PE X (.Compare a [cmM c, cmM d] [b, e] pos) (tE g W (ev G (.chain c d ea eb ee))) := (pe_chain (ok_cmp hK hw hu c) (ok_cmp hK hw hu d) ha hb he hm).mono fun σ H Q h => chain_of h
theorem r_idx {a b : Expr} {ea eb : E} (hK : X.K = g.K) (hw : X.w = g.w) (hu : X.A.units + 70 < cLine) (ha : PE X a (tE g W (ev G ea))) (hb : PE X b (tE g W (ev G eb))) (hs : PlainIx b) : PE X (.Subscript a b pos) (tE g W (ev G (.idx ea eb))) :=
  (pe_ix (ok_idx hK hw (by omega)) ha hb hs).mono fun σ H Q h => seq2 (W := W) (da := ev G ea) (db := ev G eb) (f := fun x y h => ofO (idxV x y h)) (fun lk ms h p q x y H Q hR rp rq P => ⟨lk, ms, h, p, q, hR, rp, rq, PostR.ofO_any P⟩) (by simpa only [ev] using h)
/-- a slice's part -/
abbrev tO (g : Gm) (W : WX) (d : Sto → PH → Res (Option Int)) : TO := tR g (fun _ _ a b => a = b) W d
theorem POm {o : Option Expr} {t t' : TO} (h : L2.PO X o t) (i : ∀ σ H Q, t' σ H Q → t σ H Q) : L2.PO X o t' := ⟨fun pins s σ H Q I q => h.run pins s σ H Q I (i σ H Q q)⟩
theorem r_none : L2.PO X none (tO g W (evI G none)) := POm po_none fun σ H Q ⟨lk, ms, σp, h, hR, sl, P⟩ => by
  simp only [evI] at P
  exact PostR.intro (h' := h) P Keep.refl hR rfl
theorem r_some {e : Expr} {ee : E} (he : PE X e (tE g W (ev G ee))) : L2.PO X (some e) (tO g W (evI G (some ee))) := POm (po_some he) fun σ H Q ⟨lk, ms, σp, h, hR, sl, P⟩ => by
  simp only [evI] at P
  refine ⟨lk, ms, σp, h, hR, sl, (P.bind (relA := rV g)).mono ?_⟩
  rintro x H1 ⟨ms1, h1, v, _, k1, hR1, rx, p1⟩
  unfold intR at p1
  split at p1
  · cases rx; exact ⟨_, rfl, PostR.intro (h' := h1) p1 Keep.refl hR1 rfl⟩
  · exact False.elim p1
theorem r_slc {a : Expr} {lo hi : Option Expr} {p2 : Pos} {ea : E} {el eh : Option E} (hK : X.K = g.K) (ha : PE X a (tE g W (ev G ea))) (hl : L2.PO X lo (tO g W (evI G el))) (hh : L2.PO X hi (tO g W (evI G eh))) : PE X (.Subscript a (.Slice lo hi none p2) pos) (tE g W (ev G (.slc ea el eh))) :=
  (pe_slice (sl_ok hK) ha hl hh).mono fun σ H Q ⟨lk, ms, σp, h, hR, sl, P⟩ => by
    simp only [ev] at P
    refine ⟨lk, ms, σp, h, hR, sl, (P.bind (relA := rV g)).mono ?_⟩
    rintro x H1 ⟨ms1, h1, v, _, k1, hR1, rx, p1⟩
    refine ⟨lk, ms1, σp, h1, hR1, sl.ext hR k1, (p1.bind (relA := fun _ _ a b => a = b)).mono ?_⟩
    rintro l H2 ⟨ms2, h2, u, _, k2, hR2, rfl, p2⟩
    refine ⟨lk, ms2, σp, h2, hR2, (sl.ext hR k1).ext hR1 k2, (p2.bind (relA := fun _ _ a b => a = b)).mono ?_⟩
    rintro l2 H3 ⟨ms3, h3, u3, _, k3, hR3, rfl, p3⟩
    exact ⟨lk, ms3, h3, v, hR3, Rp.ext hR1 (k2.trans k3) rx, PostR.ofO_any p3⟩
/-! ### lists of expressions -/
theorem r_nil : PA X [] (tA g W (evs G [])) := pa_nil.mono fun σ H Q h => tA_nil h
theorem r_cons {e : Expr} {es : List Expr} {ee : E} {ees : List E} (he : PE X e (tE g W (ev G ee))) (hes : PA X es (tA g W (evs G ees))) (hs : starEach (e :: es) X.env = (false, eval e X.env) :: starEach es X.env) : PA X (e :: es) (tA g W (evs G (ee :: ees))) := (pa_cons he hes hs).mono fun σ H Q h => tA_cons h
theorem r_tup {es : List Expr} {ees : List E} {k : Nat} (hes : PA X es (tA g W (evs G ees))) : PE X (.Tuple es k pos) (tE g W (ev G (.tup ees))) := (pe_tup hes).mono fun σ H Q ⟨lk, ms, σp, h, hR, sl, P⟩ => by
  simp only [ev] at P
  refine ⟨lk, ms, σp, h, hR, sl, (P.bind (relA := rVs g)).mono ?_⟩
  rintro xs H1 ⟨ms1, h1, vs, _, k1, hR1, rx, p1⟩
  split at p1
  · rename_i hz
    refine ⟨by rw [← rx.length]; exact hz, fun p np => ?_⟩
    obtain ⟨k, hR', r'⟩ := HR.newT hR1 np rx
    exact PostR.intro (h' := h1) p1 k hR' r'
  · exact False.elim p1
theorem r_lst {es : List Expr} {ees : List E} (hes : PA X es (tA g W (evs G ees))) : PE X (.List es pos) (tE g W (ev G (.lst ees))) := (pe_lst hes).mono fun σ H Q ⟨lk, ms, σp, h, hR, sl, P⟩ => by
  simp only [ev] at P
  refine ⟨lk, ms, σp, h, hR, sl, (P.bind (relA := rVs g)).mono ?_⟩
  rintro xs H1 ⟨ms1, h1, vs, _, k1, hR1, rx, p1⟩
  split at p1
  · rename_i hz
    refine ⟨by rw [← rx.length]; exact hz, fun p np => ?_⟩
    obtain ⟨k, hR', r'⟩ := HR.newL hR1 np hz rx
    exact PostR.intro (v := PV.ref h1.length) (h' := h1 ++ [PO.lst vs]) p1 k hR' r'
  · exact False.elim p1
/-! ### calls -/
theorem vN_of {da : Sto → PH → Res (List PV)} {f : List PV → PH → Option (PV × PH)} {σ : L2.St} {H : Hp} {Q : VK} (h : tE g W (fun σ h => (da σ h).bind fun vs h => ofO (f vs h)) σ H Q) : tCB (vN g f) (tA g W da) σ H Q := by
  obtain ⟨lk, ms, σp, h, hR, sl, P⟩ := h
  refine ⟨lk, ms, σp, h, hR, sl, (P.bind (relA := rVs g)).mono ?_⟩
  rintro xs H1 ⟨ms1, h1, vs, _, k1, hR1, rx, p1⟩
  exact ⟨lk, ms1, h1, vs, hR1, rx, PostR.ofO_any p1⟩
def biN : BI → Str
  | .len => "len"
  | .abs => "abs"
  | .max2 => "max"
  | .min2 => "min"
  | .max1 => "max"
  | .min1 => "min"
  | .sum => "sum"
  | .sorted => "sorted"
  | .sortedMin => "sorted"
  | .set => "set"
  | .list => "list"
  | .tuple => "tuple"
  | .dict => "dict"
  | .int => "int"
  | .str => "str"
  | .all => "all"
theorem r_bi {e : Expr} {es : List Expr} {ee : E} {ees : List E} (hc : X.calm = true) (hK : X.K = g.K) (hu : X.A.units + 70 < cLine) (b : BI) (hb : b ≠ .sortedMin) (hg : Gl X (biN b)) (hm : X.mg (biN b) = none) (ha : PA X (e :: es) (tA g W (evs G (ee :: ees))))
    (he : starEach (e :: es) X.env = (false, eval e X.env) :: starEach es X.env) (hpl : (backTo pos (starEach es X.env)).any (·.1) = false) : PE X (.Call (.Name (biN b) p) (e :: es) [] pos) (tE g W (ev G (.bi b (ee :: ees)))) := by
  have hcall := bi_ok hc hK hu b hb
  have fin : ∀ σ H Q, tE g W (ev G (.bi b (ee :: ees))) σ H Q → tCB (vN g (biV b)) (tA g W (evs G (ee :: ees))) σ H Q := fun σ H Q h => vN_of (by simpa only [ev] using h)
  cases b
  case sortedMin => exact absurd rfl hb
  case len => exact (pe_callB hcall hg hm (by kernel_rfl) ha (by decide) (by decide) he hpl).mono fin
  case abs => exact (pe_callB hcall hg hm (by kernel_rfl) ha (by decide) (by decide) he hpl).mono fin
  case max2 => exact (pe_callB hcall hg hm (by kernel_rfl) ha (by decide) (by decide) he hpl).mono fin
  case min2 => exact (pe_callB hcall hg hm (by kernel_rfl) ha (by decide) (by decide) he hpl).mono fin
  case max1 => exact (pe_callB hcall hg hm (by kernel_rfl) ha (by decide) (by decide) he hpl).mono fin
  case min1 => exact (pe_callB hcall hg hm (by kernel_rfl) ha (by decide) (by decide) he hpl).mono fin
  case sum => exact (pe_callB hcall hg hm (by kernel_rfl) ha (by decide) (by decide) he hpl).mono fin
  case sorted => exact (pe_callB hcall hg hm (by kernel_rfl) ha (by decide) (by decide) he hpl).mono fin
  case all => exact (pe_callB hcall hg hm (by kernel_rfl) ha (by decide) (by decide) he hpl).mono fin
  case set => exact (pe_callTy hcall hg hm (by kernel_rfl) ha (by decide) (by decide) he hpl).mono fin
  case list => exact (pe_callTy hcall hg hm (by kernel_rfl) ha (by decide) (by decide) he hpl).mono fin
  case tuple => exact (pe_callTy hcall hg hm (by kernel_rfl) ha (by decide) (by decide) he hpl).mono fin
  case dict => exact (pe_callTy hcall hg hm (by kernel_rfl) ha (by decide) (by decide) he hpl).mono fin
  case int => exact (pe_callTy hcall hg hm (by kernel_rfl) ha (by decide) (by decide) he hpl).mono fin
  case str => exact (pe_callTy hcall hg hm (by kernel_rfl) ha (by decide) (by decide) he hpl).mono fin
end
end Z
end

section
set_option Elab.async false
set_option linter.all false
set_option maxRecDepth 100000
set_option autoImplicit false
set_option maxHeartbeats 2000000
/-! S11: what is walked. -/
namespace Z
open PySem PySem.Spec PyProof.Rows L2

/-- what stands while s is walked by J -/
def Its (g : Gm) (lk : Addr → Option Obj) (ms1 : List Addr) (H1 : Hp) (s : Src) (J : It) : Prop :=
  (∀ i ms h H, Keep ms1 H1 ms H → g.HR lk ms h H → s.ok h = true → i < s.all.length → J.go i H ∧ ∀ x H', J.yld i H x H' → ∃ p, s.all[i]? = some p ∧ Keep ms H ms H' ∧ g.HR lk ms h H' ∧ g.Rp H' ms p x) ∧
  (∀ i ms h H, Keep ms1 H1 ms H → g.HR lk ms h H → s.ok h = true → s.all.length ≤ i → J.stop i H)
structure SrcOk (g : Gm) (lk lk1 : Addr → Option Obj) (ms1 : List Addr) (H1 : Hp) (s : Src) (h1 : PH) (J : It) : Prop where
  hr : g.HR lk1 ms1 (s.lock h1) H1
  its : Its g lk1 ms1 H1 s J
  un : ∀ ms h' H', g.HR lk1 ms h' H' → Keep ms1 H1 ms H' → g.HR lk ms (s.unlock h') H'
def PostI (g : Gm) (lk : Addr → Option Obj) (ms : List Addr) (H : Hp) (r : Res Src) (R : It → Hp → Prop) (W : Value → Option Addr → Hp → Prop) : Prop := match r with
  | .ok s h1 => ∀ J ms1 H1 lk1, Keep ms H ms1 H1 → SrcOk g lk lk1 ms1 H1 s h1 J → R J H1
  | .exc c h' => ∀ ms' H' C, Keep ms H ms' H' → g.HR lk ms' h' H' → g.cl c = some C → W (.ref C) none H'
  | .bad => False
def tI (g : Gm) (W : WX) (d : Sto → PH → Res Src) : TI := fun σ H R => ∃ lk ms σp h, g.HR lk ms h H ∧ g.SlR H ms σp σ ∧ PostI g lk ms H (d σp h) R (fun c d H' => W c d σ H')
section
variable {g : Gm} {α γ : Type} {lk : Addr → Option Obj} {ms ms1 : List Addr} {H H1 : Hp} {h : PH} {W : Value → Option Addr → Hp → Prop}
theorem PostI.from {r : Res Src} {R : It → Hp → Prop} (p : PostI g lk ms H r R W) (k : Keep ms H ms1 H1) : PostI g lk ms1 H1 r R W := by
  cases r with
  | ok s h' => exact fun J ms' H' lk' k' so => p J ms' H' lk' (k.trans k') so
  | exc c h' => exact fun ms' H' C k' hr hc => p ms' H' C (k.trans k') hr hc
  | bad => exact p
theorem PostI.bind {relA : Rel α γ} {r : Res α} {f : α → PH → Res Src} {R : It → Hp → Prop} (p : PostI g lk ms H (r.bind f) R W) :
    PostR g lk ms H relA r (fun u H1 => ∃ ms1 h1 v, r = .ok v h1 ∧ Keep ms H ms1 H1 ∧ g.HR lk ms1 h1 H1 ∧ relA ms1 H1 v u ∧ PostI g lk ms1 H1 (f v h1) R W) W := by
  cases r with
  | ok v h' => exact fun ms' H' u k hr ru => ⟨ms', h', v, rfl, k, hr, ru, PostI.from (r := f v h') p k⟩
  | exc c h' => exact p
  | bad => exact p
end

/-! ### a dict walked: locked -/
def lkD (lk : Addr → Option Obj) (d : Addr) (o : Obj) : Addr → Option Obj := fun a => if a = d then some o else lk a
section
variable {X : Cx} {g : Gm} {lk : Addr → Option Obj} {ms : List Addr} {h : PH} {H : Hp} {l : Nat} {a d : Addr} {pins : List (Addr × Obj)} {s : Shared} {σ : L2.St}
theorem at_inj (hR : g.HR lk ms h H) {l' : Nat} (e : ms[l]? = some a) (e' : ms[l']? = some a) : l' = l := by
  obtain ⟨h1, e3⟩ := List.getElem?_eq_some_iff.mp e'
  obtain ⟨h2, e4⟩ := List.getElem?_eq_some_iff.mp e
  exact (List.getElem_inj hR.nd).mp (e3.trans e4.symm)
theorem at_ne (hR : g.HR lk ms h H) {l' : Nat} {a' : Addr} (e : ms[l]? = some a) (e' : ms[l']? = some a') (n : l' ≠ l) : a' ≠ a := by
  rintro rfl
  exact n (at_inj hR e e')
theorem HR.lockD {kvs : List (PV × PV)} {n : Nat} {o : Obj} {es : Array DictEntry} {ep : Nat} (hR : g.HR lk ms h H) (eh : h[l]? = some (.dct kvs n)) (D : Dc X g lk ms H s l d kvs n o es ep) : g.HR (lkD lk d o) ms (h.set l (.dct kvs (n + 1))) H := by
  have hl : l < h.length := (List.getElem?_eq_some_iff.mp eh).1
  refine ⟨by rw [List.length_set]; exact hR.len, hR.nd, fun l' o' e' => ?_, fun a o' e' => ?_⟩
  · by_cases q : l' = l
    · subst q
      rw [List.getElem?_set_self hl] at e'
      cases e'
      exact ⟨d, D.at_, ⟨D.z, D.ns, D.nd, D.un⟩, o, es, ep, D.ho, D.ex, D.da, D.en, fun o1 h1 => by unfold lkD at h1; rw [if_pos rfl] at h1; cases h1; exact ⟨rfl, Nat.succ_pos _⟩⟩
    · rw [List.getElem?_set_ne (Ne.symm q)] at e'
      obtain ⟨a, e1, y⟩ := hR.obj l' o' e'
      exact ⟨a, e1, y.keep hR Keep.refl rfl (by unfold lkD; rw [if_neg (at_ne hR D.at_ e1 q)])⟩
  · unfold lkD at e'
    split at e'
    · rename_i q
      subst q
      exact ⟨l, kvs, n + 1, D.at_, List.getElem?_set_self hl, Nat.succ_pos _⟩
    · rename_i q
      obtain ⟨l1, kvs1, n1, e1, e2, e3⟩ := hR.lks a o' e'
      refine ⟨l1, kvs1, n1, e1, ?_, e3⟩
      rw [List.getElem?_set_ne]
      · exact e2
      · rintro rfl
        exact q (by rw [D.at_] at e1; cases e1; rfl)
theorem HR.unlockD {n : Nat} {o : Obj} {h' : PH} (hR : g.HR (lkD lk d o) ms h' H) (hd : ms[l]? = some d) (hn : ∀ o', lk d = some o' → o' = o ∧ 0 < n) :
    ∃ kvs n', h'[l]? = some (.dct kvs n') ∧ g.HR lk ms (h'.set l (.dct kvs n)) H := by
  obtain ⟨l1, kvs, n1, e1, e2, e3⟩ := hR.lks d o (by unfold lkD; rw [if_pos rfl])
  have := at_inj hR hd e1
  subst this
  have hl : l1 < h'.length := (List.getElem?_eq_some_iff.mp e2).1
  refine ⟨kvs, n1, e2, by rw [List.length_set]; exact hR.len, hR.nd, fun l' o' e' => ?_, fun a o' e' => ?_⟩
  · by_cases q : l' = l1
    · subst q
      rw [List.getElem?_set_self hl] at e'
      cases e'
      obtain ⟨a, g1, z, o2, es, ep, ho, ex, da, en, lo⟩ := hR.obj _ _ e2
      rw [e1] at g1
      cases g1
      obtain ⟨rfl, _⟩ := lo o (by unfold lkD; rw [if_pos rfl])
      exact ⟨d, e1, z, _, es, ep, ho, ex, da, en, fun o1 h1 => hn o1 h1⟩
    · rw [List.getElem?_set_ne (Ne.symm q)] at e'
      obtain ⟨a, g1, y⟩ := hR.obj l' o' e'
      exact ⟨a, g1, y.keep hR Keep.refl rfl (by unfold lkD; rw [if_neg (at_ne hR e1 g1 q)])⟩
  · by_cases q : a = d
    · subst q
      exact ⟨l1, kvs, n, e1, List.getElem?_set_self hl, (hn o' e').2⟩
    · obtain ⟨l2, kvs2, n2, g1, g2, g3⟩ := hR.lks a o' (by unfold lkD; rw [if_neg q]; exact e')
      refine ⟨l2, kvs2, n2, g1, ?_, g3⟩
      rw [List.getElem?_set_ne]
      · exact g2
      · rintro rfl
        rw [e1] at g1
        cases g1
        exact q rfl
/-- the keys of the dict at d, o its object -/
def ItD (d : Addr) (o : Obj) (ks : List V) : It :=
  ⟨fun i H => H d = some (AtO d o) ∧ i < ks.length, fun i H x H' => H' = H ∧ ks[i]? = some x, fun i H => H d = some (AtO d o) ∧ ks.length ≤ i⟩
theorem atO_get {P : Program} {w : World} {H : Hp} {hp : Heap} {a : Addr} {o : Obj} (hk : HOk P w H hp) (e : H a = some (AtO a o)) : hp.get? a = some o := by
  obtain ⟨q, _⟩ : ObjOk P w H hp a (AtO a o) := hk a _ e
  exact q
theorem turn_dz {P : Program} {w : World} {K : PySem.W.Frag} {tg : Expr} {d : Addr} {o : Obj} {es : Array DictEntry} {ep : Nat} {ks : List V} (it : Addr) (hod : o.data = .dict es ep) (hox : o.ExactDict) (hv : Vals ks (es.toList.map (·.key))) : Turn P w K tg (ItD d o ks) [it] it (fun i h => h.IsKeyIter it d i es.size ep) where
  mem := by simp
  obj := fun i h st b hb => by
    have e : b = it := by simpa using hb
    subst e
    obtain ⟨oi, e, c, dd⟩ := st
    exact ⟨oi, e, fun v z => by rw [dd] at z; cases z⟩
  keep := fun i h h' st k => st.at fun oi e => k it (by simp) oi e
  item := by
    intro X hP hw hK hc i pins s σ H E I hf st hg
    subst hP hw hK
    obtain ⟨hd, hi⟩ := hg
    obtain ⟨f0, f1, f2, f3, f4, f5⟩ := hf it (by simp)
    have hsz : ks.length = es.size := by rw [hv.length, List.length_map, Array.length_toList]
    have hi' : i < es.size := by rw [← hsz]; exact hi
    refine wpAny_pyNext_keys_item_raw st ⟨o, atO_get I.hok hd, hox, hod⟩ hi' fun h' st' sb => ?_
    have I1 : L2.Inv X pins σ H { s with heap := h' } := I.turned (t' := s.toks) (fun b ob hb e => (sb.2 b hb).trans e) f0 f1 f3 f4 f5
    obtain ⟨oi, e, c, dd⟩ := id st'
    obtain ⟨u, hu, ru⟩ := hv.get (List.getElem?_eq_getElem hi)
    have : u = es[i].key := by
      rw [List.getElem?_map, Array.getElem?_toList, Array.getElem?_eq_getElem hi'] at hu
      exact (Option.some.inj hu).symm
    subst this
    exact ⟨_, rfl, go_of (s := { s with heap := h' }) e c dd (by decide) ⟨ks[i], H, I1, ru, ⟨rfl, List.getElem?_eq_getElem hi⟩, st', fun b hb => (hf b hb).1⟩⟩
  done := by
    intro X hP hw hK hc i pins s σ H E I hf st hg
    subst hP hw hK
    obtain ⟨hd, hi⟩ := hg
    obtain ⟨f0, f1, f2, f3, f4, f5⟩ := hf it (by simp)
    have hsz : ks.length = es.size := by rw [hv.length, List.length_map, Array.length_toList]
    exact wpAny_pyNext_keys_end_raw (I.ok.hd hc) st ⟨o, atO_get I.hok hd, hox, hod⟩ (by rw [← hsz]; exact hi) fun h' eb => ⟨rfl, I.turned (t' := s.toks) (fun b ob hb e => eb b ob hb e) f0 f1 f3 f4 f5⟩
  self := fun A i s Q E st h => wpAny_pyIter_keyiter st h
/-! ### an iterator comes -/
variable {tg : Expr} {R : It → Hp → Prop}
theorem it_list {xs : List V} (I : L2.Inv X pins σ H s) (hq : SqL X.K H a xs) (q : R (Itl X.K a) H) : wpAny (model X.prog X.w) X.A (pyIter (.ref a)) (PIE X pins σ tg R) X.xe s := by
  obtain ⟨its, rv, p, hz⟩ := I.list hq
  refine wpAny_pyIter_list p.isList ?_
  refine ⟨s.heap.objs.size, [s.heap.objs.size], _, _, H, rfl, I.kept (t' := s.toks) fun b o e => Heap.get?_push_of_some _ e, turn_list a _, ⟨_, Heap.get?_push_size _ rfl, rfl, rfl⟩, fun b hb => ?_, q⟩
  have e : b = s.heap.objs.size := by simpa using hb
  subst e
  exact I.fpOk (Nat.le_refl _) (I.hok.fresh (Nat.le_refl _))
theorem it_tup {xs : List V} (I : L2.Inv X pins σ H s) (hq : SqT X.K H a xs) (q : R (Itt X.K a) H) : wpAny (model X.prog X.w) X.A (pyIter (.ref a)) (PIE X pins σ tg R) X.xe s := by
  obtain ⟨its, rv, p, hz⟩ := I.tuple hq
  refine wpAny_pyIter_tuple (show s.heap.IsTuple a its.toArray from p) ?_
  refine ⟨s.heap.objs.size, [s.heap.objs.size], _, _, H, rfl, I.kept (t' := s.toks) fun b o e => Heap.get?_push_of_some _ e, turn_tuple a _, ⟨_, Heap.get?_push_size _ rfl, rfl, rfl⟩, fun b hb => ?_, q⟩
  have e : b = s.heap.objs.size := by simpa using hb
  subst e
  exact I.fpOk (Nat.le_refl _) (I.hok.fresh (Nat.le_refl _))
/-! ### sources -/
theorem src_list {xs : List PV} (hR : g.HR lk ms h H) (e0 : ms[l]? = some a) (hK : X.K = g.K) : SrcOk g lk lk ms H (.lst l xs) h (Itl X.K a) := by
  have key : ∀ ms' h' H', Keep ms H ms' H' → g.HR lk ms' h' H' → lstAt h' l xs = true → ∃ vs, SqL X.K H' a vs ∧ g.Rps H' ms' xs vs := by
    intro ms' h' H' k hr ok
    unfold lstAt at ok
    have fin : ∀ ys, h'[l]? = some (.lst ys) ∨ h'[l]? = some (.rol ys) → ys = xs → ∃ vs, SqL X.K H' a vs ∧ g.Rps H' ms' xs vs := by
      intro ys eh ey
      subst ey
      obtain ⟨b, vs, f1, s1, r1, z⟩ := HR.anyl hr eh
      rw [k.at e0] at f1
      cases f1
      exact ⟨vs, hK ▸ s1, r1⟩
    split at ok
    · rename_i ys eh; exact fin ys (.inl eh) (of_decide_eq_true ok)
    · rename_i ys eh; exact fin ys (.inr eh) (of_decide_eq_true ok)
    · cases ok
  refine ⟨hR, ⟨fun i ms' h' H' k hr ok hi => ?_, fun i ms' h' H' k hr ok hi => ?_⟩, fun ms' h' H' hr k => hr⟩
  · obtain ⟨vs, s1, r1⟩ := key ms' h' H' k hr ok
    obtain ⟨v, e1, e2⟩ := r1.get (List.getElem?_eq_getElem hi)
    refine ⟨⟨vs, v, s1, e1⟩, fun x H2 y => ?_⟩
    obtain ⟨rfl, y⟩ := y
    have := (y vs s1).symm.trans e1
    cases this
    exact ⟨_, List.getElem?_eq_getElem hi, Keep.refl, hr, e2⟩
  · obtain ⟨vs, s1, r1⟩ := key ms' h' H' k hr ok
    exact ⟨vs, s1, by rw [← r1.length]; exact hi⟩
theorem src_ro {xs : List PV} {vs : List V} (hR : g.HR lk ms h H) (s0 : RoL g.K H ms a vs) (r0 : g.Rps H ms xs vs) (hK : X.K = g.K) : SrcOk g lk lk ms H (.ro xs) h (Itl X.K a) := by
  refine ⟨hR, ⟨fun i ms' h' H' k hr ok hi => ?_, fun i ms' h' H' k hr ok hi => ?_⟩, fun ms' h' H' hr k => hr⟩
  · have s1 : SqL X.K H' a vs := hK ▸ (s0.ext k).seq
    have r1 := Rps.ext hR k r0
    obtain ⟨v, e1, e2⟩ := r1.get (List.getElem?_eq_getElem hi)
    refine ⟨⟨vs, v, s1, e1⟩, fun x H2 y => ?_⟩
    obtain ⟨rfl, y⟩ := y
    have := (y vs s1).symm.trans e1
    cases this
    exact ⟨_, List.getElem?_eq_getElem hi, Keep.refl, hr, e2⟩
  · have hi : xs.length ≤ i := hi
    exact ⟨vs, hK ▸ (s0.ext k).seq, by rw [← r0.length]; exact hi⟩
theorem src_tup {xs : List PV} {vs : List V} (hR : g.HR lk ms h H) (s0 : SqT g.K H a vs) (r0 : g.Rps H ms xs vs) (hK : X.K = g.K) : SrcOk g lk lk ms H (.tup xs) h (Itt X.K a) := by
  refine ⟨hR, ⟨fun i ms' h' H' k hr ok hi => ?_, fun i ms' h' H' k hr ok hi => ?_⟩, fun ms' h' H' hr k => hr⟩
  · have s1 : SqT X.K H' a vs := hK ▸ hR.seqT k s0
    have r1 := Rps.ext hR k r0
    obtain ⟨v, e1, e2⟩ := r1.get (List.getElem?_eq_getElem hi)
    refine ⟨⟨vs, v, s1, e1⟩, fun x H2 y => ?_⟩
    obtain ⟨rfl, y⟩ := y
    have := (y vs s1).symm.trans e1
    cases this
    exact ⟨_, List.getElem?_eq_getElem hi, Keep.refl, hr, e2⟩
  · have hi : xs.length ≤ i := hi
    exact ⟨vs, hK ▸ hR.seqT k s0, by rw [← r0.length]; exact hi⟩
theorem src_rng {lo : Int} {n : Nat} (hR : g.HR lk ms h H) : SrcOk g lk lk ms H (.rng lo 1 n) h (Itr lo n) := by
  have hl : (Src.rng lo 1 n).all.length = n := by simp [Src.all]
  refine ⟨hR, ⟨fun i ms' h' H' k hr ok hi => ?_, fun i ms' h' H' k hr ok hi => ?_⟩, fun ms' h' H' hr k => hr⟩
  · rw [hl] at hi
    refine ⟨hi, fun x H2 y => ?_⟩
    obtain ⟨rfl, rfl⟩ := y
    refine ⟨.int (lo + i), ?_, Keep.refl, hr, .int⟩
    simp [Src.all, hi]
  · rw [hl] at hi
    exact hi
theorem it_dct (hK : X.K = g.K) {kvs : List (PV × PV)} {n : Nat} (hR : g.HR lk ms h H) (I : L2.Inv X pins σ H s) (eh : h[l]? = some (.dct kvs n)) {v : V} {u : Value} (rp : g.Rp H ms (.ref l) v) (ru : RelV v u)
    (q : ∀ J lk1, SrcOk g lk lk1 ms H (.dct l (kvs.map (·.1)) n) h J → R J H) : wpAny (model X.prog X.w) X.A (pyIter u) (PIE X pins σ tg R) X.xe s := by
  obtain ⟨d, o, es, ep, D⟩ := HR.dct hR I eh
  have ey := D.ref rp
  subst ey
  cases ru
  obtain ⟨ks, k1, k2⟩ := PU.back (PU.keys D.en)
  refine wpAny_pyIter_dict_raw D.ns ⟨o, D.get, D.ex, D.da⟩ (pi_one (tk := s.toks) I _ (turn_dz (d := d) (ks := ks) _ D.da D.ex k2) ⟨_, Heap.get?_push_size _ rfl, rfl, rfl⟩ (q _ (lkD lk d o) ?_))
  have hlen : ks.length = kvs.length := by rw [← k1.length, List.length_map]
  have key : ∀ ms' h' H', Keep ms H ms' H' → g.HR (lkD lk d o) ms' h' H' → H' d = some (AtO d o) := by
    intro ms' h' H' k hr
    obtain ⟨l1, kvs1, n1, e1, e2, e3⟩ := hr.lks d o (by unfold lkD; rw [if_pos rfl])
    obtain ⟨a, g1, z, o2, es2, ep2, ho, ex, da, en, lo⟩ := hr.obj _ _ e2
    rw [e1] at g1
    cases g1
    obtain ⟨rfl, _⟩ := lo o (by unfold lkD; rw [if_pos rfl])
    exact ho
  refine ⟨?_, ⟨fun i ms' h' H' k hr ok hi => ?_, fun i ms' h' H' k hr ok hi => ?_⟩, fun ms' h' H' hr k => ?_⟩
  · have := HR.lockD hR eh D
    simpa only [Src.lock, eh] using this
  · have hi : i < (kvs.map (·.1)).length := hi
    have hi2 : i < ks.length := by rw [hlen]; simpa using hi
    refine ⟨⟨key ms' h' H' k hr, hi2⟩, fun x H2 y => ?_⟩
    obtain ⟨rfl, y⟩ := y
    have r1 := Rps.ext hR k k1
    obtain ⟨w, e1, e2⟩ := r1.get (List.getElem?_eq_getElem hi)
    rw [y] at e1
    cases e1
    exact ⟨_, List.getElem?_eq_getElem hi, Keep.refl, hr, e2⟩
  · have hi : (kvs.map (·.1)).length ≤ i := hi
    exact ⟨key ms' h' H' k hr, by rw [hlen]; simpa using hi⟩
  · obtain ⟨kvs2, n2, e1, r⟩ := HR.unlockD (l := l) (n := n) hr (k.at D.at_) D.lo
    simpa only [Src.unlock, e1] using r
end
end Z
end

section
set_option Elab.async false
set_option linter.all false
set_option maxRecDepth 100000
set_option autoImplicit false
set_option maxHeartbeats 2000000
/-! S12: iterables, tests, targets. -/
namespace Z
open PySem PySem.Spec PyProof.Rows L2

section
variable {X : Cx} {g : Gm} {G : Env} {W : WX} {pos p : Pos} {tg : Expr} {lk : Addr → Option Obj} {ms : List Addr} {h : PH} {H : Hp} {l : Nat} {a : Addr}
theorem src_is {v : PV} {s : Src} (e : srcOf v h = some s) : (∃ l xs, v = .ref l ∧ s = .lst l xs ∧ (h[l]? = some (.lst xs) ∨ h[l]? = some (.rol xs))) ∨ (∃ l kvs n, v = .ref l ∧ s = .dct l (kvs.map (·.1)) n ∧ h[l]? = some (.dct kvs n)) ∨
    (∃ xs, v = .tup xs ∧ s = .tup xs) ∨ ∃ xs, v = .ro xs ∧ s = .ro xs := by
  unfold srcOf at e
  split at e
  · split at e
    · rename_i eh; cases e; exact .inl ⟨_, _, rfl, rfl, .inl eh⟩
    · rename_i eh; cases e; exact .inl ⟨_, _, rfl, rfl, .inr eh⟩
    · rename_i eh; cases e; exact .inr (.inl ⟨_, _, _, rfl, rfl, eh⟩)
    · cases e
  · cases e; exact .inr (.inr (.inl ⟨_, rfl, rfl⟩))
  · cases e; exact .inr (.inr (.inr ⟨_, rfl, rfl⟩))
  · cases e
theorem r_val {e : Expr} {ee : E} (hK : X.K = g.K) (he : PE X e (tE g W (ev G ee))) : PI X tg e (tI g W (evSrc G (.val ee))) := by
  refine ⟨fun pins s σ H R I hh => ?_⟩
  obtain ⟨lk, ms, σp, h, hR, sl, P⟩ := hh
  simp only [evSrc] at P
  refine thn (he.run pins s σ H _ I ⟨lk, ms, σp, h, hR, sl, P.bind (relA := rV g)⟩) fun u s1 ⟨x, H1, I1, ru, ms1, h1, v, _, k1, hR1, rx, p1⟩ => ?_
  cases es : srcOf v h1 with
  | none => rw [es] at p1; exact False.elim p1
  | some sr =>
    rw [es] at p1
    rcases src_is es with ⟨l, xs, rfl, rfl, eh⟩ | ⟨l, kvs, n, rfl, rfl, eh⟩ | ⟨xs, rfl, rfl⟩ | ⟨xs, rfl, rfl⟩
    · obtain ⟨a, vs, f1, s1', r1, z⟩ := HR.anyl hR1 eh
      have := Rp.ref_at rx f1
      subst this
      cases ru
      exact it_list I1 (hK ▸ s1') (p1 _ ms1 H1 lk Keep.refl (src_list hR1 f1 hK))
    · exact it_dct hK hR1 I1 eh rx ru fun J lk1 so => p1 J ms1 H1 lk1 Keep.refl so
    · obtain ⟨a, vs, rfl, s1', r1⟩ := rx.tup_of
      cases ru
      exact it_tup I1 (hK ▸ s1') (p1 _ ms1 H1 lk Keep.refl (src_tup hR1 s1' r1 hK))
    · obtain ⟨a, vs, rfl, s1', r1⟩ := rx.ro_of
      cases ru
      exact it_list I1 (hK ▸ s1'.seq) (p1 _ ms1 H1 lk Keep.refl (src_ro hR1 s1' r1 hK))
theorem small_62 {j : Int} (e : small62 j = true) : -(2 ^ 62) ≤ j ∧ j < 2 ^ 62 := by
  unfold small62 at e
  rw [Bool.and_eq_true] at e
  exact ⟨of_decide_eq_true e.1, of_decide_eq_true e.2⟩
theorem PIm {e : Expr} {t t' : TI} (h : PI X tg e t) (i : ∀ σ H R, t' σ H R → t σ H R) : PI X tg e t' := ⟨fun pins s σ H R I q => h.run pins s σ H R I (i σ H R q)⟩
theorem r_rng1 {e : Expr} {ee : E} (hg : Gl X "range") (hm : X.mg "range" = none) (he : PE X e (tE g W (ev G ee))) (hs : starEach [e] X.env = (false, eval e X.env) :: starEach [] X.env) : PI X tg (.Call (.Name "range" p) [e] [] pos) (tI g W (evSrc G (.rng1 ee))) :=
  PIm (pi_range1 hg hm (pa_cons he pa_nil hs) hs) fun σ H R ⟨lk, ms, σp, h, hR, sl, P⟩ => by
    simp only [evSrc] at P
    refine ⟨lk, ms, σp, h, hR, sl, (P.bind (relA := rV g)).mono ?_⟩
    rintro x H1 ⟨ms1, h1, v, _, k1, hR1, rx, p1⟩
    unfold rng1R at p1
    split at p1
    · split at p1
      · rename_i hz
        cases rx
        obtain ⟨z1, z2⟩ := small_62 hz
        exact ⟨_, rfl, z1, z2, p1 _ ms1 H1 lk Keep.refl (src_rng hR1)⟩
      · exact False.elim p1
    · exact False.elim p1
theorem r_rng2 {e e2 : Expr} {ee ee2 : E} (hg : Gl X "range") (hm : X.mg "range" = none) (he : PE X e (tE g W (ev G ee))) (he2 : PE X e2 (tE g W (ev G ee2))) (hs : starEach [e, e2] X.env = (false, eval e X.env) :: starEach [e2] X.env) (hs2 : starEach [e2] X.env = (false, eval e2 X.env) :: starEach [] X.env) :
    PI X tg (.Call (.Name "range" p) [e, e2] [] pos) (tI g W (evSrc G (.rng2 ee ee2))) :=
  PIm (pi_range2 hg hm (pa_cons he (pa_cons he2 pa_nil hs2) hs) (by rw [hs, hs2]; rfl) hs2) fun σ H R ⟨lk, ms, σp, h, hR, sl, P⟩ => by
    simp only [evSrc] at P
    refine ⟨lk, ms, σp, h, hR, sl, (P.bind (relA := rV g)).mono ?_⟩
    rintro x H1 ⟨ms1, h1, v, _, k1, hR1, rx, p1⟩
    refine ⟨lk, ms1, σp, h1, hR1, sl.ext hR k1, (p1.bind (relA := rV g)).mono ?_⟩
    rintro y H2 ⟨ms2, h2, u, _, k2, hR2, ry, p2⟩
    unfold rng2R at p2
    split at p2
    · split at p2
      · rename_i hz
        rw [Bool.and_eq_true] at hz
        cases rx
        cases ry
        obtain ⟨z1, z2⟩ := small_62 hz.1
        obtain ⟨z3, z4⟩ := small_62 hz.2
        exact ⟨_, _, rfl, ⟨z1, z2, z3, z4⟩, p2 _ ms2 H2 lk Keep.refl (src_rng hR2)⟩
      · exact False.elim p2
    · exact False.elim p2
theorem src_enum {xs : List PV} (hR : g.HR lk ms h H) (e0 : ms[l]? = some a) (hK : X.K = g.K) : SrcOk g lk lk ms H (.enum l xs) h (Ite X.K a) := by
  have so := src_list (xs := xs) hR e0 hK
  have hl : (Src.enum l xs).all.length = xs.length := by simp [Src.all]
  refine ⟨hR, ⟨fun i ms' h' H' k hr ok hi => ?_, fun i ms' h' H' k hr ok hi => ?_⟩, fun ms' h' H' hr k => hr⟩
  · rw [hl] at hi
    obtain ⟨⟨vs, v, s1, e1⟩, y1⟩ := so.its.1 i ms' h' H' k hr ok hi
    refine ⟨⟨vs, v, s1, e1⟩, fun x H2 y => ?_⟩
    obtain ⟨T, w, rfl, nT, rfl, ew⟩ := y
    have := (ew vs s1).symm.trans e1
    cases this
    obtain ⟨q, g1, g2, g3, g4⟩ := y1 v H' ⟨rfl, fun ys hy => ew ys hy⟩
    have g1 : xs[i]? = some q := g1
    obtain ⟨k', hR', r'⟩ := HR.newT hr nT (show g.Rps H' ms' [.int i, q] [.int (i : Nat), v] from .cons .int (.cons g4 .nil))
    refine ⟨.tup [.int i, q], ?_, k', hR', r'⟩
    simp [Src.all, List.getElem?_zipWith, hi, g1]
    exact (List.getElem?_eq_some_iff.mp g1).2
  · rw [hl] at hi
    exact so.its.2 i ms' h' H' k hr ok hi
theorem r_enum {e : Expr} {ee : E} {elts : List Expr} {kk : Nat} {tpos : Pos} (hK : X.K = g.K) (hg : Gl X "enumerate") (hm : X.mg "enumerate" = none) (he : PE X e (tE g W (ev G ee))) (hs : starEach [e] X.env = (false, eval e X.env) :: starEach [] X.env) :
    PI X (.Tuple elts kk tpos) (.Call (.Name "enumerate" p) [e] [] pos) (tI g W (evSrc G (.enum ee))) :=
  PIm (pi_enum hg hm (pa_cons he pa_nil hs) hs) fun σ H R ⟨lk, ms, σp, h, hR, sl, P⟩ => by
    simp only [evSrc] at P
    refine ⟨lk, ms, σp, h, hR, sl, (P.bind (relA := rV g)).mono ?_⟩
    rintro x H1 ⟨ms1, h1, v, _, k1, hR1, rx, p1⟩
    unfold enumR at p1
    split at p1
    · rename_i l xs es
      rcases src_is es with ⟨l', xs', rfl, e2, eh⟩ | ⟨l', kvs, n, rfl, e2, eh⟩ | ⟨xs', rfl, e2⟩ | ⟨xs', rfl, e2⟩ <;> cases e2
      obtain ⟨a, vs, f1, s1', r1, z⟩ := HR.anyl hR1 eh
      have := Rp.ref_at rx f1
      subst this
      exact ⟨a, vs, rfl, hK ▸ s1', p1 _ ms1 H1 lk Keep.refl (src_enum hR1 f1 hK)⟩
    · exact False.elim p1
theorem zipW {xs ys : List PV} {i : Nat} (hi : i < (xs.zipWith (fun x y => PV.tup [x, y]) ys).length) : ∃ x y, xs[i]? = some x ∧ ys[i]? = some y ∧ (xs.zipWith (fun x y => PV.tup [x, y]) ys)[i]? = some (.tup [x, y]) := by
  rw [List.length_zipWith] at hi
  have h1 : i < xs.length := by omega
  have h2 : i < ys.length := by omega
  exact ⟨xs[i], ys[i], List.getElem?_eq_getElem h1, List.getElem?_eq_getElem h2, by rw [List.getElem?_zipWith, List.getElem?_eq_getElem h1, List.getElem?_eq_getElem h2]⟩
theorem src_zip {xs ys : List PV} {m : Nat} {b : Addr} (hR : g.HR lk ms h H) (e0 : ms[l]? = some a) (e1 : ms[m]? = some b) (hK : X.K = g.K) : SrcOk g lk lk ms H (.zip l m xs ys) h (Itz X.K a b) := by
  have so := src_list (xs := xs) hR e0 hK
  have so2 := src_list (xs := ys) hR e1 hK
  refine ⟨hR, ⟨fun i ms' h' H' k hr ok hi => ?_, fun i ms' h' H' k hr ok hi => ?_⟩, fun ms' h' H' hr k => hr⟩
  · have ok : (lstAt h' l xs && lstAt h' m ys) = true := ok
    rw [Bool.and_eq_true] at ok
    have hi : i < (xs.zipWith (fun x y => PV.tup [x, y]) ys).length := hi
    obtain ⟨x, y, g1, g2, g3⟩ := zipW hi
    rw [List.length_zipWith] at hi
    obtain ⟨⟨vs, v, s1, q1⟩, y1⟩ := so.its.1 i ms' h' H' k hr ok.1 (by show i < xs.length; omega)
    obtain ⟨⟨us, u, s2, q2⟩, y2⟩ := so2.its.1 i ms' h' H' k hr ok.2 (by show i < ys.length; omega)
    refine ⟨⟨vs, us, v, u, s1, s2, q1, q2⟩, fun z H2 yl => ?_⟩
    obtain ⟨T, w1, w2, rfl, nT, rfl, t1, t2⟩ := yl
    have := (t1 vs s1).symm.trans q1
    cases this
    have := (t2 us s2).symm.trans q2
    cases this
    obtain ⟨p1, a1, _, _, a4⟩ := y1 v H' ⟨rfl, fun zs hz => t1 zs hz⟩
    obtain ⟨p2, b1, _, _, b4⟩ := y2 u H' ⟨rfl, fun zs hz => t2 zs hz⟩
    have a1 : xs[i]? = some p1 := a1
    have b1 : ys[i]? = some p2 := b1
    rw [g1] at a1; cases a1
    rw [g2] at b1; cases b1
    obtain ⟨k', hR', r'⟩ := HR.newT hr nT (show g.Rps H' ms' [x, y] [v, u] from .cons a4 (.cons b4 .nil))
    exact ⟨.tup [x, y], g3, k', hR', r'⟩
  · have ok : (lstAt h' l xs && lstAt h' m ys) = true := ok
    rw [Bool.and_eq_true] at ok
    have hi : (xs.zipWith (fun x y => PV.tup [x, y]) ys).length ≤ i := hi
    rw [List.length_zipWith] at hi
    -- both lists as they stand
    have vs_of : ∀ {l : Nat} {a : Addr} {xs : List PV}, ms[l]? = some a → lstAt h' l xs = true → ∃ vs, SqL X.K H' a vs ∧ xs.length = vs.length := by
      intro l a xs e ok
      unfold lstAt at ok
      have fin : ∀ zs, h'[l]? = some (.lst zs) ∨ h'[l]? = some (.rol zs) → zs = xs → ∃ vs, SqL X.K H' a vs ∧ xs.length = vs.length := by
        intro zs eh ez
        subst ez
        obtain ⟨b, vs, f1, s1, r1, z⟩ := HR.anyl hr eh
        rw [k.at e] at f1
        cases f1
        exact ⟨vs, hK ▸ s1, r1.length⟩
      split at ok
      · rename_i zs eh; exact fin zs (.inl eh) (of_decide_eq_true ok)
      · rename_i zs eh; exact fin zs (.inr eh) (of_decide_eq_true ok)
      · cases ok
    obtain ⟨vs, s1, l1⟩ := vs_of e0 ok.1
    obtain ⟨us, s2, l2⟩ := vs_of e1 ok.2
    exact ⟨vs, us, s1, s2, by omega⟩
theorem src_zipT {xs ys : List PV} {b : Addr} {vs us : List V} (hR : g.HR lk ms h H) (s0 : SqT g.K H a vs) (r0 : g.Rps H ms xs vs) (s1 : SqT g.K H b us) (r1 : g.Rps H ms ys us) (hK : X.K = g.K) : SrcOk g lk lk ms H (.zipT xs ys) h (RZ.ItzT X.K a b) := by
  refine ⟨hR, ⟨fun i ms' h' H' k hr ok hi => ?_, fun i ms' h' H' k hr ok hi => ?_⟩, fun ms' h' H' hr k => hr⟩
  · have hi : i < (xs.zipWith (fun x y => PV.tup [x, y]) ys).length := hi
    obtain ⟨x, y, g1, g2, g3⟩ := zipW hi
    obtain ⟨v, q1, q2⟩ := (Rps.ext hR k r0).get g1
    obtain ⟨u, q3, q4⟩ := (Rps.ext hR k r1).get g2
    have t0 : SqT X.K H' a vs := hK ▸ hR.seqT k s0
    have t1 : SqT X.K H' b us := hK ▸ hR.seqT k s1
    refine ⟨⟨vs, us, v, u, t0, t1, q1, q3⟩, fun z H2 yl => ?_⟩
    obtain ⟨T, w1, w2, rfl, nT, rfl, e1, e2⟩ := yl
    have := (e1 vs t0).symm.trans q1
    cases this
    have := (e2 us t1).symm.trans q3
    cases this
    obtain ⟨k', hR', r'⟩ := HR.newT hr nT (show g.Rps H' ms' [x, y] [v, u] from .cons q2 (.cons q4 .nil))
    exact ⟨.tup [x, y], g3, k', hR', r'⟩
  · have hi : (xs.zipWith (fun x y => PV.tup [x, y]) ys).length ≤ i := hi
    rw [List.length_zipWith, r0.length, r1.length] at hi
    exact ⟨vs, us, hK ▸ hR.seqT k s0, hK ▸ hR.seqT k s1, by omega⟩
theorem r_zip {e e2 : Expr} {ee ee2 : E} {elts : List Expr} {kk : Nat} {tpos : Pos} (hK : X.K = g.K) (hg : Gl X "zip") (hm : X.mg "zip" = none) (he : PE X e (tE g W (ev G ee))) (he2 : PE X e2 (tE g W (ev G ee2))) (hs : starEach [e, e2] X.env = (false, eval e X.env) :: starEach [e2] X.env) (hs2 : starEach [e2] X.env = (false, eval e2 X.env) :: starEach [] X.env) :
    PI X (.Tuple elts kk tpos) (.Call (.Name "zip" p) [e, e2] [] pos) (tI g W (evSrc G (.zip ee ee2))) :=
  PIm (RZ.pi_zipA hg hm (pa_cons he (pa_cons he2 pa_nil hs2) hs) hs (by rw [hs2]; rfl)) fun σ H R ⟨lk, ms, σp, h, hR, sl, P⟩ => by
    simp only [evSrc] at P
    refine ⟨lk, ms, σp, h, hR, sl, (P.bind (relA := rV g)).mono ?_⟩
    rintro x H1 ⟨ms1, h1, v, _, k1, hR1, rx, p1⟩
    refine ⟨lk, ms1, σp, h1, hR1, sl.ext hR k1, (p1.bind (relA := rV g)).mono ?_⟩
    rintro y H2 ⟨ms2, h2, u, _, k2, hR2, ry, p2⟩
    have rx2 := Rp.ext hR1 k2 rx
    unfold zipR at p2
    split at p2
    · rename_i l xs m ys es1 es2
      rcases src_is es1 with ⟨l', xs', rfl, e2, eh⟩ | ⟨l', kvs, n, rfl, e2, eh⟩ | ⟨xs', rfl, e2⟩ | ⟨xs', rfl, e2⟩ <;> cases e2
      rcases src_is es2 with ⟨l', xs', rfl, e2, eh2⟩ | ⟨l', kvs, n, rfl, e2, eh2⟩ | ⟨xs', rfl, e2⟩ | ⟨xs', rfl, e2⟩ <;> cases e2
      obtain ⟨a, vs, f1, s1', r1, z⟩ := HR.anyl hR2 eh
      have := Rp.ref_at rx2 f1
      subst this
      obtain ⟨b, us, f2, s2', r2, z2⟩ := HR.anyl hR2 eh2
      have := Rp.ref_at ry f2
      subst this
      exact ⟨a, b, vs, us, rfl, .inl ⟨hK ▸ s1', hK ▸ s2', p2 _ ms2 H2 lk Keep.refl (src_zip hR2 f1 f2 hK)⟩⟩
    · rename_i xs ys es1 es2
      rcases src_is es1 with ⟨l', xs', rfl, e2, eh⟩ | ⟨l', kvs, n, rfl, e2, eh⟩ | ⟨xs', rfl, e2⟩ | ⟨xs', rfl, e2⟩ <;> cases e2
      rcases src_is es2 with ⟨l', xs', rfl, e2, eh2⟩ | ⟨l', kvs, n, rfl, e2, eh2⟩ | ⟨xs', rfl, e2⟩ | ⟨xs', rfl, e2⟩ <;> cases e2
      obtain ⟨a, vs, rfl, s1', r1⟩ := rx2.tup_of
      obtain ⟨b, us, rfl, s2', r2⟩ := ry.tup_of
      exact ⟨a, b, vs, us, rfl, .inr ⟨hK ▸ s1', hK ▸ s2', p2 _ ms2 H2 lk Keep.refl (src_zipT hR2 s1' r1 s2' r2 hK)⟩⟩
    · exact False.elim p2
end
end Z
end

section
set_option Elab.async false
set_option linter.all false
set_option maxRecDepth 100000
set_option autoImplicit false
set_option maxHeartbeats 2000000
/-! S13: tests, targets. -/
namespace Z
open PySem PySem.Spec PyProof.Rows L2

section
variable {X : Cx} {g : Gm} {G : Env} {W : WX} {pos p : Pos} {lk : Addr → Option Obj} {ms : List Addr} {h : PH} {H : Hp} {l : Nat} {a : Addr}
/-! ### tests -/
theorem t_plain {a : Expr} {ea : E} (hK : X.K = g.K) (ha : PE X a (tE g W (ev G ea))) (he : ∀ whole, isTrue a X.env whole = (do let v ← whole; standAt a.pos; holding [v] (truthy v))) : PT X a (tT g W (evT G ea)) :=
  (pt_truth ha he).mono fun σ H Q ⟨lk, ms, σp, h, hR, sl, P⟩ => by
    unfold evT at P
    refine ⟨lk, ms, σp, h, hR, sl, (P.bind (relA := rV g)).mono ?_⟩
    rintro x H1 ⟨ms1, h1, v, _, k1, hR1, rx, p1⟩
    cases e : truth v h1 with
    | none => rw [e] at p1; exact False.elim p1
    | some b => rw [e] at p1; exact ⟨b, tru_of hK hR1 rx e, PostR.intro (v := b) (h' := h1) p1 Keep.refl hR1 rfl⟩
theorem evT_not {ea : E} {σ : Sto} {h : PH} : evT G (.not ea) σ h = (evT G ea σ h).bind fun b h => .ok (!b) h := by
  unfold evT
  simp only [ev]
  cases ev G ea σ h with
  | ok v h1 =>
    dsimp only [Res.bind]
    cases truth v h1 <;> rfl
  | exc _ _ => rfl
  | bad => rfl
theorem t_not {a : Expr} {ea : E} (ha : PT X a (tT g W (evT G ea))) : PT X (.UnaryOp .Not a pos) (tT g W (evT G (.not ea))) := (pt_not ha).mono fun σ H Q ⟨lk, ms, σp, h, hR, sl, P⟩ => by
  rw [evT_not] at P
  refine ⟨lk, ms, σp, h, hR, sl, (P.bind (relA := rB)).mono ?_⟩
  rintro b H1 ⟨ms1, h1, v, _, k1, hR1, rfl, p1⟩
  exact PostR.intro (h' := h1) p1 Keep.refl hR1 rfl
def andT (G : Env) (es : List E) (σ : Sto) (h : PH) : Res Bool := (evAnd G es σ h).bind fun v h => someR (truth v h) h
def orT (G : Env) (es : List E) (σ : Sto) (h : PH) : Res Bool := (evOr G es σ h).bind fun v h => someR (truth v h) h
theorem andT_cons {e e' : E} {es : List E} {σ : Sto} {h : PH} : andT G (e :: e' :: es) σ h = (evT G e σ h).bind fun b h => if b then andT G (e' :: es) σ h else .ok false h := by
  unfold andT evT
  simp only [evAnd]
  cases ev G e σ h with
  | ok v h1 =>
    dsimp only [Res.bind]
    cases ht : truth v h1 with
    | none => rfl
    | some b => cases b with
      | true => rfl
      | false => simp [someR, ht]
  | exc _ _ => rfl
  | bad => rfl
theorem orT_cons {e e' : E} {es : List E} {σ : Sto} {h : PH} : orT G (e :: e' :: es) σ h = (evT G e σ h).bind fun b h => if b then .ok true h else orT G (e' :: es) σ h := by
  unfold orT evT
  simp only [evOr]
  cases ev G e σ h with
  | ok v h1 =>
    dsimp only [Res.bind]
    cases ht : truth v h1 with
    | none => rfl
    | some b => cases b with
      | false => rfl
      | true => simp [someR, ht]
  | exc _ _ => rfl
  | bad => rfl
theorem _root_.L2.PW.mono {e : Expr} {t t' : TT} (h : PW X e t) (i : ∀ σ H Q, t' σ H Q → t σ H Q) : PW X e t' := ⟨fun wh pins s σ H Q I q => h.run wh pins s σ H Q I (i σ H Q q)⟩
theorem w_and1 {a : Expr} {ea : E} (ha : PT X a (tT g W (evT G ea))) : PW X (.BoolOp .And [a] pos) (tT g W (andT G [ea])) := (pw_and1 ha).mono fun σ H Q h => by
  have : andT G [ea] = evT G ea := by funext σ h; simp only [andT, evAnd, evT]
  rw [this] at h; exact h
theorem w_or1 {a : Expr} {ea : E} (ha : PT X a (tT g W (evT G ea))) : PW X (.BoolOp .Or [a] pos) (tT g W (orT G [ea])) := (pw_or1 ha).mono fun σ H Q h => by
  have : orT G [ea] = evT G ea := by funext σ h; simp only [orT, evOr, evT]
  rw [this] at h; exact h
theorem w_and {a b : Expr} {rest : List Expr} {ea eb : E} {er : List E} (ha : PT X a (tT g W (evT G ea))) (hb : PW X (.BoolOp .And (b :: rest) pos) (tT g W (andT G (eb :: er)))) : PW X (.BoolOp .And (a :: b :: rest) pos) (tT g W (andT G (ea :: eb :: er))) :=
  (pw_and ha hb).mono fun σ H Q ⟨lk, ms, σp, h, hR, sl, P⟩ => by
    rw [andT_cons] at P
    refine ⟨lk, ms, σp, h, hR, sl, (P.bind (relA := rB)).mono ?_⟩
    rintro b H1 ⟨ms1, h1, v, _, k1, hR1, rfl, p1⟩
    cases v with
    | true => exact ⟨lk, ms1, σp, h1, hR1, sl.ext hR k1, p1⟩
    | false => exact PostR.intro (v := false) (h' := h1) p1 Keep.refl hR1 rfl
theorem w_or {a b : Expr} {rest : List Expr} {ea eb : E} {er : List E} (ha : PT X a (tT g W (evT G ea))) (hb : PW X (.BoolOp .Or (b :: rest) pos) (tT g W (orT G (eb :: er)))) : PW X (.BoolOp .Or (a :: b :: rest) pos) (tT g W (orT G (ea :: eb :: er))) :=
  (pw_or ha hb).mono fun σ H Q ⟨lk, ms, σp, h, hR, sl, P⟩ => by
    rw [orT_cons] at P
    refine ⟨lk, ms, σp, h, hR, sl, (P.bind (relA := rB)).mono ?_⟩
    rintro b H1 ⟨ms1, h1, v, _, k1, hR1, rfl, p1⟩
    cases v with
    | false => exact ⟨lk, ms1, σp, h1, hR1, sl.ext hR k1, p1⟩
    | true => exact PostR.intro (v := true) (h' := h1) p1 Keep.refl hR1 rfl
theorem tT_bool {e : E} (hb : ∀ σ h v h', ev G e σ h = .ok v h' → ∃ b, v = .bl b) {σ : L2.St} {H : Hp} {Q : Bool → Hp → Prop} (h : tT g W (evT G e) σ H Q) : tE g W (ev G e) σ H (fun x H' => ∃ k, x = .bl k ∧ Q k H') := by
  obtain ⟨lk, ms, σp, h, hR, sl, P⟩ := h
  refine ⟨lk, ms, σp, h, hR, sl, ?_⟩
  unfold evT at P
  cases he : ev G e σp h with
  | ok v h1 =>
    rw [he] at P
    obtain ⟨b, rfl⟩ := hb _ _ _ _ he
    exact fun ms' H' u k hr ru => by
      cases ru
      exact ⟨b, rfl, P ms' H' b k hr rfl⟩
  | exc c h1 => rw [he] at P; exact P
  | bad => rw [he] at P; exact P
theorem bool_cmp {c : Cm} {ea eb : E} {σ : Sto} {h : PH} {v : PV} {h' : PH} (e : ev G (.cmp c ea eb) σ h = .ok v h') : ∃ b, v = .bl b := by
  simp only [ev] at e
  cases h1 : ev G ea σ h with
  | ok x h1' =>
    rw [h1] at e; dsimp only [Res.bind] at e
    cases h2 : ev G eb σ h1' with
    | ok y h2' =>
      rw [h2] at e; dsimp only [Res.bind] at e
      cases h3 : cmpO c x y h2' with
      | none => rw [h3] at e; cases e
      | some b => rw [h3] at e; cases e; exact ⟨b, rfl⟩
    | exc _ _ => rw [h2] at e; cases e
    | bad => rw [h2] at e; cases e
  | exc _ _ => rw [h1] at e; cases e
  | bad => rw [h1] at e; cases e
theorem bool_chain {c d : Cm} {ea eb ee : E} {σ : Sto} {h : PH} {v : PV} {h' : PH} (e : ev G (.chain c d ea eb ee) σ h = .ok v h') : ∃ b, v = .bl b := by
  simp only [ev] at e
  cases h1 : ev G ea σ h with
  | ok x h1' =>
    rw [h1] at e; dsimp only [Res.bind] at e
    cases h2 : ev G eb σ h1' with
    | ok y h2' =>
      rw [h2] at e; dsimp only [Res.bind] at e
      cases h3 : cmpO c x y h2' with
      | none => rw [h3] at e; cases e
      | some b =>
        rw [h3] at e
        cases b with
        | false => cases e; exact ⟨_, rfl⟩
        | true =>
          dsimp only [someR] at e
          rw [if_pos rfl] at e
          cases h4 : ev G ee σ h2' with
          | ok z h4' =>
            rw [h4] at e; dsimp only [Res.bind] at e
            cases h5 : cmpO d y z h4' with
            | none => rw [h5] at e; cases e
            | some b => rw [h5] at e; cases e; exact ⟨b, rfl⟩
          | exc _ _ => rw [h4] at e; cases e
          | bad => rw [h4] at e; cases e
    | exc _ _ => rw [h2] at e; cases e
    | bad => rw [h2] at e; cases e
  | exc _ _ => rw [h1] at e; cases e
  | bad => rw [h1] at e; cases e
theorem t_cmp {a b : Expr} {ea eb : E} (hK : X.K = g.K) (hw : X.w = g.w) (hu : X.A.units + 70 < cLine) (c : Cm) (ha : PE X a (tE g W (ev G ea))) (hb : PE X b (tE g W (ev G eb))) (hm : behindInMarks (cmM c) b = false) : PT X (.Compare a [cmM c] [b] pos) (tT g W (evT G (.cmp c ea eb))) :=
  (pt_cmpR (ok_cmp hK hw hu c) ha hb hm).mono fun σ H Q h => by
    have h' := tT_bool (fun σ h v h' e => bool_cmp e) h
    exact seq2 (W := W) (da := ev G ea) (db := ev G eb) (f := fun x y h => (someR (cmpO c x y h) h).bind fun b h => .ok (.bl b) h)
      (fun lk ms h p q x y H Q hR rp rq P => let ⟨b, e, q'⟩ := cmp_of hR P; ⟨lk, ms, h, p, q, b, hR, rp, rq, e, q'⟩) (by simpa only [ev] using h')
theorem t_chain {a b e : Expr} {ea eb ee : E} (hK : X.K = g.K) (hw : X.w = g.w) (hu : X.A.units + 70 < cLine) (c d : Cm) (ha : PE X a (tE g W (ev G ea))) (hb : PE X b (tE g W (ev G eb))) (he : PE X e (tE g W (ev G ee))) (hm : lastMarks [cmM c, cmM d] [b, e] = false) :
    PT X (.Compare a [cmM c, cmM d] [b, e] pos) (tT g W (evT G (.chain c d ea eb ee))) := (pt_chain (ok_cmp hK hw hu c) (ok_cmp hK hw hu d) ha hb he hm).mono fun σ H Q h => chain_of (tT_bool (fun σ h v h' e => bool_chain e) h)

/-! ### targets -/
/-- all but the slots is stand -/
def Off (is : List Nat) (σ σ' : L2.St) : Prop := σ'.length = σ.length ∧ ∀ j, j ∉ is → σ'[j]? = σ[j]?
theorem Off.refl {is : List Nat} {σ : L2.St} : Off is σ σ := ⟨rfl, fun _ _ => rfl⟩
theorem Off.trans {is js : List Nat} {σ σ' σ'' : L2.St} (a : Off is σ σ') (b : Off js σ' σ'') : Off (is ++ js) σ σ'' := ⟨b.1.trans a.1, fun j hj => by
  rw [List.mem_append, not_or] at hj
  rw [b.2 j hj.2, a.2 j hj.1]⟩
theorem Off.set {i : Nat} {σ : L2.St} {v : Option V} : Off [i] σ (σ.set i v) := ⟨List.length_set, fun j hj => by
  rw [List.getElem?_set_ne]
  rintro rfl
  exact hj (by simp)⟩
theorem wipe_at {σ : L2.St} : ∀ {vs : List Nat} {j : Nat}, (wipe σ vs)[j]? = if j ∈ vs ∧ j < σ.length then some none else σ[j]?
  | [], j => by simp [wipe]
  | v :: vs, j => by
    unfold wipe
    by_cases e : v = j
    · subst e
      by_cases hl : v < σ.length
      · rw [List.getElem?_set_self (by rw [wipe_length]; exact hl), if_pos ⟨by simp, hl⟩]
      · rw [List.getElem?_eq_none (by rw [List.length_set, wipe_length]; omega), if_neg (by simp [hl]), List.getElem?_eq_none (by omega)]
    · rw [List.getElem?_set_ne e, wipe_at (vs := vs) (j := j)]
      have : (j ∈ v :: vs) ↔ j ∈ vs := by simp [Ne.symm e]
      by_cases h1 : j ∈ vs ∧ j < σ.length
      · rw [if_pos h1, if_pos ⟨this.mpr h1.1, h1.2⟩]
      · rw [if_neg h1, if_neg fun z => h1 ⟨this.mp z.1, z.2⟩]
theorem Off.wipe {is vs : List Nat} {σ σ' : L2.St} (o : Off is σ σ') (hs : ∀ i ∈ is, i ∈ vs) : wipe σ' vs = wipe σ vs := by
  refine List.ext_getElem? fun j => ?_
  rw [wipe_at, wipe_at, o.1]
  split
  · rfl
  · rename_i n
    by_cases hj : j ∈ vs
    · have : ¬ j < σ.length := fun z => n ⟨hj, z⟩
      rw [List.getElem?_eq_none (by rw [o.1]; omega), List.getElem?_eq_none (by omega)]
    · exact o.2 j fun z => hj (hs j z)
abbrev rSt (g : Gm) (is : List Nat) (σ : L2.St) : Rel Sto L2.St := fun ms H a b => g.SlR H ms a b ∧ Off is σ b
def tG (g : Gm) (W : WX) (is : List Nat) (d : PV → Sto → PH → Res Sto) : TG := fun v σ H Q => ∃ lk ms σp h q, g.HR lk ms h H ∧ g.SlR H ms σp σ ∧ g.Rp H ms q v ∧ PostR g lk ms H (rSt g is σ) (d q σp h) Q (fun c d H' => W c d σ H')
def tGs (g : Gm) (W : WX) (is : List Nat) (d : List PV → Sto → PH → Res Sto) : TGs := fun vs σ H Q => ∃ lk ms σp h qs, g.HR lk ms h H ∧ g.SlR H ms σp σ ∧ g.Rps H ms qs vs ∧ PostR g lk ms H (rSt g is σ) (d qs σp h) Q (fun c d H' => W c d σ H')
theorem _root_.L2.PG.mono {e : Expr} {t t' : TG} (h : PG X e t) (i : ∀ v σ H Q, t' v σ H Q → t v σ H Q) : PG X e t' := ⟨fun pins s σ H v u Q I r q => h.run pins s σ H v u Q I r (i v σ H Q q)⟩
theorem _root_.L2.PGs.mono {e : List Expr} {t t' : TGs} (h : PGs X e t) (i : ∀ v σ H Q, t' v σ H Q → t v σ H Q) : PGs X e t' := ⟨fun pins s σ H v u Q I r q => h.run pins s σ H v u Q I r (i v σ H Q q)⟩
theorem g_nm {i : Nat} {x : Str} (hN : X.N.Nodup) (hi : X.N[i]? = some x) (hx : Loc X.env.scope x) (hf : X.fn x = true ∨ X.env.scope.names.lookup x = some .local) : PG X (.Name x pos) (tG g W [i] (tgt G (.nm i))) :=
  (pg_name hN hi hx hf).mono fun v σ H Q ⟨lk, ms, σp, h, q, hR, sl, rq, P⟩ => by
    simp only [tgt] at P
    exact P ms H _ Keep.refl hR ⟨Paired.set (x := some q) (y := some v) rq i sl, Off.set⟩
theorem gs_nil {is : List Nat} : PGs X [] (tGs g W is (tgts G [])) := pgs_nil.mono fun v σ H Q ⟨lk, ms, σp, h, q, hR, sl, rq, P⟩ => by
  cases rq with
  | nil => simp only [tgts] at P; exact ⟨rfl, P ms H _ Keep.refl hR ⟨sl, Off.refl⟩⟩
  | cons _ _ => simp only [tgts] at P; exact False.elim P
mutual
/-- names alone -/
def nmOnly : Tg → Bool
  | .nm _ => true
  | .tp ts => nmsOnly ts
  | .sub _ _ => false
  | .att _ _ => false
def nmsOnly : List Tg → Bool
  | [] => true
  | t :: ts => nmOnly t && nmsOnly ts
end
mutual
theorem nm_noexc : ∀ {t : Tg} {v : PV} {σ : Sto} {h : PH} {c : Nat} {h' : PH}, nmOnly t = true → tgt G t v σ h ≠ .exc c h'
  | .nm i, v, σ, h, c, h', _ => by simp [tgt]
  | .tp ts, v, σ, h, c, h', e => by
    rw [nmOnly] at e
    simp only [tgt]
    split
    · split
      · exact nms_noexc e
      · intro z; cases z
    · split
      · split
        · exact nms_noexc e
        · intro z; cases z
      · intro z; cases z
    · intro z; cases z
  | .sub _ _, v, σ, h, c, h', e => by simp [nmOnly] at e
  | .att _ _, v, σ, h, c, h', e => by simp [nmOnly] at e
theorem nms_noexc : ∀ {ts : List Tg} {v : List PV} {σ : Sto} {h : PH} {c : Nat} {h' : PH}, nmsOnly ts = true → tgts G ts v σ h ≠ .exc c h'
  | [], [], σ, h, c, h', _ => by simp [tgts]
  | [], _ :: _, σ, h, c, h', _ => by simp [tgts]
  | _ :: _, [], σ, h, c, h', _ => by simp [tgts]
  | t :: ts, x :: xs, σ, h, c, h', e => by
    rw [nmsOnly, Bool.and_eq_true] at e
    simp only [tgts]
    cases ht : tgt G t x σ h with
    | ok σ2 h2 => exact nms_noexc e.2
    | exc c2 h2 => exact absurd ht (nm_noexc e.1)
    | bad => intro z; cases z
end
theorem gs_cons {e : Expr} {es : List Expr} {t : Tg} {ts : List Tg} {is js : List Nat} (h1 : PG X e (tG g W is (tgt G t))) (h2 : PGs X es (tGs g W js (tgts G ts))) (hs : (assignEach (e :: es) X.env).map (·.2) = assign e X.env :: (assignEach es X.env).map (·.2)) (nw : nmsOnly ts = true) :
    PGs X (e :: es) (tGs g W (is ++ js) (tgts G (t :: ts))) := (pgs_cons h1 h2 hs).mono fun v σ H Q ⟨lk, ms, σp, h, q, hR, sl, rq, P⟩ => by
  cases rq with
  | nil => simp only [tgts] at P; exact False.elim P
  | @cons p v ps vs r1 r2 =>
    simp only [tgts] at P
    refine ⟨v, vs, rfl, lk, ms, σp, h, p, hR, sl, r1, (P.bind (relA := rSt g is σ)).mono ?_⟩
    rintro σ1 H1 ⟨ms1, h1, σp1, _, k1, hR1, ⟨sl1, o1⟩, p1⟩
    refine ⟨lk, ms1, σp1, h1, ps, hR1, sl1, Rps.ext hR k1 r2, ?_⟩
    cases hr : tgts G ts ps σp1 h1 with
    | ok σp2 h2 => rw [hr] at p1; exact fun ms' H' u k hr ⟨s2, o2⟩ => p1 ms' H' u k hr ⟨s2, o1.trans o2⟩
    | exc c h2 => exact absurd hr (nms_noexc nw)
    | bad => rw [hr] at p1; exact p1
theorem g_tp {es : List Expr} {k : Nat} {ts : List Tg} {is : List Nat} (hc : X.calm = true) (hK : X.K = g.K) (h : PGs X es (tGs g W is (tgts G ts))) (hn : (assignEach es X.env).length = ts.length) (hst : (assignEach es X.env).findIdx? (·.1) = none) : PG X (.Tuple es k pos) (tG g W is (tgt G (.tp ts))) := by
  refine ⟨fun pins s σ H v u Q I r hh => ?_⟩
  obtain ⟨lk, ms, σp, h0, q, hR, sl, rq, P⟩ := hh
  simp only [tgt] at P
  split at P
  · rename_i xs
    split at P
    · rename_i hl
      obtain ⟨a, vs, rfl, s1, r1⟩ := rq.tup_of
      exact (pg_tup hc h hn hst).run pins s σ H _ u Q I r ⟨a, vs, rfl, hK ▸ s1, by rw [← r1.length]; exact hl, lk, ms, σp, h0, xs, hR, sl, r1, P⟩
    · exact False.elim P
  · split at P
    · rename_i xs eh
      split at P
      · rename_i hl
        obtain ⟨a, vs, f1, s1, r1, z⟩ := HR.lst hR eh
        have := Rp.ref_at rq f1
        subst this
        exact (pg_lst hc h hn hst).run pins s σ H _ u Q I r ⟨a, vs, rfl, SqL.of s1, by rw [← r1.length]; exact hl, lk, ms, σp, h0, xs, hR, sl, r1, P⟩
      · exact False.elim P
    · exact False.elim P
  · exact False.elim P
end
end Z
end

section
set_option Elab.async false
set_option linter.all false
set_option maxRecDepth 100000
set_option autoImplicit false
set_option maxHeartbeats 2000000
/-! S14: stores, calls, comprehensions. -/
namespace Z
open PySem PySem.Spec PyProof.Rows L2

section
variable {X : Cx} {g : Gm} {G : Env} {W : WX} {pos p apos cpos : Pos} {lk : Addr → Option Obj} {ms : List Addr} {h : PH} {H : Hp} {l : Nat} {a : Addr}
/-! ### o[i] = v -/
def vSet (g : Gm) : TSet := fun o i v H Q => ∃ lk ms h p q r, g.HR lk ms h H ∧ g.Rp H ms p o ∧ g.Rp H ms q i ∧ g.Rp H ms r v ∧ PostR g lk ms H (fun _ _ (_ : Unit) (_ : Unit) => True) (ofU (setV p q r h)) (fun _ H' => Q H') (fun _ _ _ => False)
theorem ok_set (hK : X.K = g.K) (hw : X.w = g.w) (hu : X.A.units + 70 < cLine) : PSet X (vSet g) := by
  intro pins s σ H o i v ov iv u Q I ro ri rv hh
  obtain ⟨lk, ms, h, p, q, r, hR, rp, rq, rr, P⟩ := hh
  unfold setV at P
  split at P
  · split at P
    · rename_i xs eh
      split at P
      · rename_i j
        split at P
        · rename_i hj
          obtain ⟨a, vs, f1, s1, r1, z⟩ := HR.lst hR eh
          have := Rp.ref_at rp f1
          subst this
          cases rq
          refine set_list pins s σ H _ _ v ov iv u Q I ro ri rv ⟨a, vs, j, j.toNat, rfl, rfl, s1, ?_, ?_⟩
          · rw [← r1.length]
            unfold ixN
            rw [if_pos hj.1, if_pos (by omega)]
          · obtain ⟨k, hR'⟩ := HR.putL (xs := xs.set j.toNat r) (vs := vs.set j.toNat v) hR f1 eh (by rw [List.length_set]; exact z) (r1.set _ rr)
            exact PostR.intro (rel := fun _ _ (_ : Unit) (_ : Unit) => True) (v := ()) (u := ()) P k hR' trivial
        · exact False.elim P
      · exact False.elim P
    · rename_i kvs eh
      split at P
      · rename_i f
        rw [Bool.and_eq_true] at f
        exact ok_dset hK hw (by omega) hR I eh rp ro rq ri rr rv f.1 (of_decide_eq_true f.2) fun ms' H' k hR' => PostR.intro (rel := fun _ _ (_ : Unit) (_ : Unit) => True) (v := ()) (u := ()) P k hR' trivial
      · exact False.elim P
    · exact False.elim P
  · exact False.elim P
theorem g_sub {o i : Expr} {eo ei : E} (hK : X.K = g.K) (hw : X.w = g.w) (hu : X.A.units + 70 < cLine) (ho : PE X o (tE g W (ev G eo))) (hi : PE X i (tE g W (ev G ei)))
    (ha : ∀ v, assign (.Subscript o i pos) X.env v = (do
      let ov ← holding [v] (eval o X.env)
      let iv ← holding [v, ov] (eval i X.env)
      standAt pos
      holding [v, ov, iv] (setItem ov iv v)
      release [v, ov, iv] [])) : PG X (.Subscript o i pos) (tG g W [] (tgt G (.sub eo ei))) :=
  (pg_sub ho hi (ok_set hK hw hu) ha).mono fun v σ H Q ⟨lk, ms, σp, h, q, hR, sl, rq, P⟩ => by
    simp only [tgt] at P
    refine ⟨lk, ms, σp, h, hR, sl, (P.bind (relA := rV g)).mono ?_⟩
    rintro x H1 ⟨ms1, h1, xv, _, k1, hR1, rx, p1⟩
    refine ⟨lk, ms1, σp, h1, hR1, sl.ext hR k1, (p1.bind (relA := rV g)).mono ?_⟩
    rintro y H2 ⟨ms2, h2, yv, _, k2, hR2, ry, p2⟩
    refine ⟨lk, ms2, h2, xv, yv, q, hR2, Rp.ext hR1 k2 rx, ry, Rp.ext hR1 k2 (Rp.ext hR k1 rq), ?_⟩
    cases e : setV xv yv q h2 with
    | none => rw [e] at p2; exact False.elim p2
    | some h3 =>
      rw [e] at p2
      exact fun ms' H' u k hr _ => p2 ms' H' σ k hr ⟨SlR.ext hR2 k (SlR.ext hR1 k2 (sl.ext hR k1)), Off.refl⟩
/-! ### isinstance, sorted(.., key=min), methods -/
theorem boot_ty (t : Ty) (ht : t ≠ .value) (ht2 : ∀ c, t ≠ .own c) : bootBuiltins (Str.ofString (tyS t)) = some (.type (tyS t)) := by
  cases t
  case value => exact absurd rfl ht
  case own c => exact absurd rfl (ht2 c)
  all_goals kernel_rfl
theorem r_isi {e : Expr} {ee : E} {t : Ty} {p2 : Pos} (hK : X.K = g.K) (ht : t ≠ .value) (ht2 : ∀ c, t ≠ .own c) (hg : Gl X "isinstance") (hm : X.mg "isinstance" = none) (hg2 : Gl X (Str.ofString (tyS t))) (hm2 : X.mg (Str.ofString (tyS t)) = none) (he : PE X e (tE g W (ev G ee)))
    (hs : starEach (e :: [Expr.Name (Str.ofString (tyS t)) p2]) X.env = (false, eval e X.env) :: starEach [Expr.Name (Str.ofString (tyS t)) p2] X.env) :
    PE X (.Call (.Name "isinstance" p) [e, .Name (Str.ofString (tyS t)) p2] [] pos) (tE g W (ev G (.isi ee t))) := by
  have hn : PE X (.Name (Str.ofString (tyS t)) p2) (tC (V.ty (tyS t))) := pe_bltn hg2 hm2 (boot_ty t ht ht2) rfl (by cases t <;> first | decide | exact absurd rfl ht | exact absurd rfl (ht2 _)) (by cases t <;> first | decide | exact absurd rfl ht | exact absurd rfl (ht2 _))
  refine (pe_callB (isi_ok (sub := G.sub) hK ht ht2) hg hm (by kernel_rfl) (pa_cons he (pa_cons hn pa_nil (by rfl)) hs) (by decide) (by decide) hs (by rfl)).mono fun σ H Q ⟨lk, ms, σp, h, hR, sl, P⟩ => ?_
  simp only [ev] at P
  refine ⟨lk, ms, σp, h, hR, sl, (P.bind (relA := rV g)).mono ?_⟩
  rintro x H1 ⟨ms1, h1, xv, _, k1, hR1, rx, p1⟩
  cases hi : isiV G.sub xv t h1 with
  | none => rw [hi] at p1; exact False.elim p1
  | some b =>
    rw [hi] at p1
    exact ⟨lk, ms1, h1, xv, x, b, rfl, hR1, rx, hi, PostR.intro (h' := h1) p1 Keep.refl hR1 .bl⟩
theorem r_sortedMin {e : Expr} {ee : E} {p2 kp : Pos} (hc : X.calm = true) (hK : X.K = g.K) (hu : X.A.units + 70 < cLine) (hg : Gl X "sorted") (hm : X.mg "sorted" = none) (hg2 : Gl X "min") (hm2 : X.mg "min" = none) (he : PE X e (tE g W (ev G ee)))
    (hs : starEach [e] X.env = (false, eval e X.env) :: starEach [] X.env) : PE X (.Call (.Name "sorted" p) [e] [⟨some "key", .Name "min" p2, kp⟩] pos) (tE g W (ev G (.bi .sortedMin [ee]))) := by
  refine ⟨fun pins s σ H Q I hh => ?_⟩
  obtain ⟨lk, ms, σp, h, hR, sl, P⟩ := hh
  refine wpAny_Call_Name_kw (ld_blt (u := .builtin "sorted") I hg hm (by kernel_rfl) ?_ (by decide) (by decide))
  have hA := (r_cons he r_nil hs).run pos pins s σ H _ I ⟨lk, ms, σp, h, hR, sl, by
    have P' : PostR g lk ms H (rV g) ((evs G [ee] σp h).bind fun vs h => ofO (biV .sortedMin vs h)) Q (fun c d H' => W c d σ H') := by simpa only [ev] using P
    exact P'.bind (relA := rVs g)⟩
  refine PyProof.Rows.callWith_kw (e := e) (rest := []) (kws := [⟨some "key", .Name "min" p2, kp⟩]) (thn hA fun us s1 ⟨vs, H1, I1, r1, ms1, h1, ps, _, k1, hR1, rx, p1⟩ => ?_) (by rw [hs]; rfl) (by rw [hs]; rfl) rfl rfl
  cases ps with
  | nil => cases rx; exact False.elim p1
  | cons q qs =>
    cases qs with
    | cons _ _ => exact False.elim p1
    | nil =>
      obtain ⟨x, rfl, rq⟩ := Rps.inv1 rx
      obtain ⟨u, rfl, ru⟩ := vals1 r1
      show wpAny _ _ (evalAll ((do let v ← eval (.Name "min" p2) X.env; standAt pos; pure v) :: [])) _ _ s1
      refine wpAny_evalAll_cons (wpAny_bind (ld_blt (u := .builtin "min") I1 hg2 hm2 (by kernel_rfl) (wpAny_bind (wpAny_standAt (wpAny_pure ?_))) (by decide) (by decide)))
      refine wpAny_evalAll_nil ?_
      exact ok_sortedMin hc hK hu I1 ru ⟨lk, ms1, h1, q, hR1, rq, PostR.ofO_any p1⟩
theorem r_bm0 {o : Expr} {eo : E} (hK : X.K = g.K) (hw : X.w = g.w) (hu : X.A.units + 70 < cLine) (m : BM) (hm : bmOk m = true) (ho : PE X o (tE g W (ev G eo))) (hbase : attributeBase o (bmA m) X.env (eval o X.env) = eval o X.env) (hline : (apos.endLine == cpos.line) = true) :
    PE X (.Call (.Attribute o (bmA m) apos) [] [] cpos) (tE g W (ev G (.bm m eo []))) :=
  (pe_bmz0 (g := g) hK (bm_pa m) (bm_slot m hm) (bm_ty m hm) (bm_ok hK hw hu m hm) ho hbase hline).mono fun σ H Q ⟨lk, ms, σp, h, hR, sl, P⟩ => by
    simp only [ev] at P
    refine ⟨lk, ms, σp, h, hR, sl, (P.bind (relA := rV g)).mono ?_⟩
    rintro x H1 ⟨ms1, h1, v, _, k1, hR1, rx, p1⟩
    split at p1
    · rename_i ht
      exact ⟨⟨lk, ms1, h1, v, hR1, rx, ht⟩, lk, ms1, h1, v, [], hR1, rx, .nil, PostR.ofO_any p1⟩
    · exact False.elim p1
theorem r_bm {o e : Expr} {es : List Expr} {eo ee : E} {ees : List E} (hK : X.K = g.K) (hw : X.w = g.w) (hu : X.A.units + 70 < cLine) (m : BM) (hm : bmOk m = true) (ho : PE X o (tE g W (ev G eo))) (ha : PA X (e :: es) (tA g W (evs G (ee :: ees))))
    (hbase : attributeBase o (bmA m) X.env (eval o X.env) = eval o X.env)
    (hfew : ((backTo cpos (starEach (e :: es) X.env)).all (fun x => !x.1) && (backToKw cpos (keywordEach [] X.env)).all (fun x => x.1.isSome)
      && decide ((e :: es).length + ([] : List Keyword).length + (if ([] : List Keyword).isEmpty then 0 else 1) < 30)) = true)
    (hline : (apos.endLine == cpos.line) = true) (hs : starEach (e :: es) X.env = (false, eval e X.env) :: starEach es X.env) (hplain : (backTo cpos (starEach es X.env)).any (·.1) = false) :
    PE X (.Call (.Attribute o (bmA m) apos) (e :: es) [] cpos) (tE g W (ev G (.bm m eo (ee :: ees)))) :=
  (pe_bmz (g := g) hK (bm_pa m) (bm_slot m hm) (bm_ty m hm) (bm_ok hK hw hu m hm) ho ha hbase hfew hline hs hplain).mono fun σ H Q ⟨lk, ms, σp, h, hR, sl, P⟩ => by
    simp only [ev] at P
    refine ⟨lk, ms, σp, h, hR, sl, (P.bind (relA := rV g)).mono ?_⟩
    rintro x H1 ⟨ms1, h1, v, _, k1, hR1, rx, p1⟩
    split at p1
    · rename_i ht
      refine ⟨⟨lk, ms1, h1, v, hR1, rx, ht⟩, lk, ms1, σp, h1, hR1, sl.ext hR k1, (p1.bind (relA := rVs g)).mono ?_⟩
      rintro xs H2 ⟨ms2, h2, vs, _, k2, hR2, rxs, p2⟩
      exact ⟨lk, ms2, h2, v, vs, hR2, Rp.ext hR1 k2 rx, rxs, PostR.ofO_any p2⟩
    · exact False.elim p1
/-! ### calls of defs -/
/-- what a def's call does, as a promise -/
def spZ (g : Gm) (G : Env) (f n : Nat) : Sp := fun vs H Q E => ∃ lk ms h ps, g.HR lk ms h H ∧ g.Rps H ms ps vs ∧ ps.length = n ∧ PostR g lk ms H (rV g) (G.call f ps h) Q E
theorem call_of {f n : Nat} {ees : List E} {σ : L2.St} {H : Hp} {Q : VK} (hn : ees.length = n) (h : tE g W (ev G (.call f ees)) σ H Q) : tCallS (spZ g G f n) (WE W) (tA g W (evs G ees)) σ H Q := by
  obtain ⟨lk, ms, σp, h, hR, sl, P⟩ := h
  simp only [ev] at P
  have hlen : ∀ {es : List E} {h h' : PH} {vs : List PV}, evs G es σp h = .ok vs h' → vs.length = es.length := by
    intro es
    induction es with
    | nil => intro h h' vs e; rw [evs] at e; cases e; rfl
    | cons e0 es ih =>
      intro h h' vs e
      rw [evs] at e
      cases h1 : ev G e0 σp h with
      | ok v h2 =>
        rw [h1] at e; dsimp only [Res.bind] at e
        cases h3 : evs G es σp h2 with
        | ok vs' h4 => rw [h3] at e; cases e; rw [List.length_cons, List.length_cons, ih h3]
        | exc _ _ => rw [h3] at e; cases e
        | bad => rw [h3] at e; cases e
      | exc _ _ => rw [h1] at e; cases e
      | bad => rw [h1] at e; cases e
  refine ⟨lk, ms, σp, h, hR, sl, (P.bind (relA := rVs g)).mono ?_⟩
  rintro xs H1 ⟨ms1, h1, vs, e, k1, hR1, rx, p1⟩
  exact ⟨lk, ms1, h1, vs, hR1, rx, by rw [hlen e]; exact hn, p1⟩
theorem r_call {k : Nat} {fa : Addr} {fd : FuncData} {ps : List Str} {x : Str} {e : Expr} {es : List Expr} {f n : Nat} {ee : E} {ees : List E} (F : FnOk X.prog X.w X.K X.mg X.base (L2.CX X.prog X.w) k fa fd ps (spZ g G f n)) (hr : Room k X.A) (hg : Gl X x) (hm : X.mg x = some (.ref fa))
    (hk : PySem.W.keepIn X.K (.ref fa) = true) (hb : Binds X.K fd ps []) (tk : Takes X W) (ha : PA X (e :: es) (tA g W (evs G (ee :: ees)))) (hn : (ee :: ees).length = n) (hdb : (x == ("__debug__" : Str)) = false)
    (he : starEach (e :: es) X.env = (false, eval e X.env) :: starEach es X.env) (hpl : (backTo pos (starEach es X.env)).any (·.1) = false) : PE X (.Call (.Name x p) (e :: es) [] pos) (tE g W (ev G (.call f (ee :: ees)))) :=
  (pe_callS F hr hg hm hk hb (fun σ => passAt tk σ) ha hdb he hpl).mono fun σ H Q h => call_of hn h
end
end Z
end

section
set_option Elab.async false
set_option linter.all false
set_option maxRecDepth 100000
set_option autoImplicit false
set_option maxHeartbeats 2000000
/-! S15: comprehensions. -/
namespace Z
open PySem PySem.Spec PyProof.Rows L2

section
variable {w : World} {cl : Nat → Option Addr} {K : PySem.W.Frag} {px : List (Addr × Nat)} {lk : Addr → Option Obj} {ms ms' : List Addr} {h : PH} {H H' : Hp} {D : Addr} {acc : List V}
theorem Rp.map (t : ∀ a vs, SqT K H a vs → SqT K H' a vs) (m : ∀ (l : Nat) (a : Addr), ms[l]? = some a → ms'[l]? = some a) (ro : ∀ a vs, RoL K H ms a vs → RoL K H' ms' a vs) {p : PV} {v : V} (r : Rp K px H ms p v) : Rp K px H' ms' p v :=
  Rp.rec (motive_1 := fun q v _ => Rp K px H' ms' q v) (motive_2 := fun q v _ => Rps K px H' ms' q v) .non .bl .int .str (fun s _ ih => .tup (t _ _ s) ih) (fun e => .ref (m _ _ e)) (fun e => .exc e) (fun s _ ih => .ro (ro _ _ s) ih) .nil (fun _ _ i1 i2 => .cons i1 i2) r
theorem Rps.map (t : ∀ a vs, SqT K H a vs → SqT K H' a vs) (m : ∀ (l : Nat) (a : Addr), ms[l]? = some a → ms'[l]? = some a) (ro : ∀ a vs, RoL K H ms a vs → RoL K H' ms' a vs) : ∀ {p : List PV} {v : List V}, Rps K px H ms p v → Rps K px H' ms' p v
  | _, _, .nil => .nil
  | _, _, .cons a b => .cons (Rp.map t m ro a) (Rps.map t m ro b)
theorem ObR.map (t : ∀ a vs, SqT K H a vs → SqT K H' a vs) (m : ∀ (l : Nat) (a : Addr), ms[l]? = some a → ms'[l]? = some a) (ro : ∀ a vs, RoL K H ms a vs → RoL K H' ms' a vs) {a : Addr} {o : PO} (ha : H' a = H a) (hd : ∀ dx, H dx = some (.own a) → H' dx = some (.own a)) (x : ObR w cl K px lk ms H a o) : ObR w cl K px lk ms' H' a o := by
  cases o with
  | lst xs => obtain ⟨z, vs, e, q⟩ := x; exact ⟨z, vs, ha.trans e, Rps.map t m ro q⟩
  | rol xs => obtain ⟨z, o, vs, e, q⟩ := x; exact ⟨z, o, vs, ha.trans e, Rps.map t m ro q⟩
  | dct kvs n =>
    obtain ⟨z, o, es, ep, e, c, d, q, l⟩ := x
    exact ⟨z, o, es, ep, ha.trans e, c, d, Paired.mapP q fun _ _ ⟨a, ⟨v, b1, b2⟩, ⟨u, c1, c2⟩⟩ => ⟨a, ⟨v, Rp.map t m ro b1, b2⟩, ⟨u, Rp.map t m ro c1, c2⟩⟩, l⟩
  | set xs => exact x
  | ins c fs =>
    obtain ⟨C, dx, gs, c1, e, nd, z, q⟩ := x
    exact ⟨C, dx, gs, c1, ha.trans e, hd _ nd, z, Paired.mapP q fun _ _ ⟨y, u⟩ => ⟨y, Rp.map t m ro u⟩⟩
theorem off_t {us : List V} (hD : H D = some (.lst acc)) (a : Addr) (vs : List V) (s : SqT K H a vs) : SqT K (upd H D (.lst us)) a vs := by
  rcases s with (s | ⟨o, s⟩) | s
  · exact .inl (.inl (by rw [upd_ne (by rintro rfl; rw [hD] at s; cases s)]; exact s))
  · exact .inl (.inr ⟨o, by rw [upd_ne (by rintro rfl; rw [hD] at s; cases s)]; exact s⟩)
  · exact .inr s
theorem off_ro {us : List V} (hD : H D = some (.lst acc)) (a : Addr) (vs : List V) (s : RoL K H ms a vs) : RoL K (upd H D (.lst us)) ms a vs := by
  rcases s with ⟨⟨o, s⟩, n⟩ | s
  · exact .inl ⟨⟨o, by rw [upd_ne (by rintro rfl; rw [hD] at s; cases s)]; exact s⟩, n⟩
  · exact .inr s
/-- a list that is none of ours is changed -/
theorem HR.offD {us : List V} (r : HR w cl K px lk ms h H) (hD : H D = some (.lst acc)) (nD : D ∉ ms) : HR w cl K px lk ms h (upd H D (.lst us)) := by
  refine ⟨r.len, r.nd, fun l o e => ?_, r.lks⟩
  obtain ⟨a, e1, y⟩ := r.obj l o e
  have ma : a ∈ ms := List.mem_of_getElem? e1
  exact ⟨a, e1, y.map (off_t hD) (fun _ _ z => z) (off_ro hD) (upd_ne fun z => nD (z ▸ ma)) fun dx e => by rw [upd_ne (by rintro rfl; rw [hD] at e; cases e)]; exact e⟩
theorem ad_ro (hD : H D = some (.lst acc)) (a : Addr) (vs : List V) (s : RoL K H ms a vs) : RoL K H (ms ++ [D]) a vs := by
  rcases s with ⟨⟨o, s⟩, n⟩ | s
  · refine .inl ⟨⟨o, s⟩, fun m => ?_⟩
    rcases List.mem_append.mp m with m | m
    · exact n m
    · have := List.mem_singleton.mp m
      subst this
      rw [hD] at s
      cases s
  · exact .inr s
theorem ad_at (l : Nat) (a : Addr) (e : ms[l]? = some a) : (ms ++ [D])[l]? = some a := by
  rw [List.getElem?_append_left (List.getElem?_eq_some_iff.mp e).1]; exact e
/-- .. is ours from now on -/
theorem HR.adopt {xs : List PV} (r : HR w cl K px lk ms h H) (hD : H D = some (.lst acc)) (nD : D ∉ ms) (z : xs.length ≤ sizeLine) (rs : Rps K px H ms xs acc) : HR w cl K px lk (ms ++ [D]) (h ++ [.lst xs]) H ∧ (ms ++ [D])[h.length]? = some D := by
  have he : (ms ++ [D])[h.length]? = some D := by rw [← r.len]; simp
  refine ⟨⟨by simp [r.len], ?_, fun l o e => ?_, fun a o e => let ⟨l, kvs, n, e1, e2, e3⟩ := r.lks a o e; ⟨l, kvs, n, ad_at _ _ e1, by rw [List.getElem?_append_left (List.getElem?_eq_some_iff.mp e2).1]; exact e2, e3⟩⟩, he⟩
  · rw [List.nodup_append]
    exact ⟨r.nd, by simp, fun a m b m' => by rw [List.mem_singleton.mp m']; exact fun z => nD (z ▸ m)⟩
  · by_cases hl : l < h.length
    · rw [List.getElem?_append_left hl] at e
      obtain ⟨a, e1, y⟩ := r.obj l o e
      exact ⟨a, ad_at _ _ e1, y.map (fun _ _ z => z) ad_at (ad_ro hD) rfl fun _ z => z⟩
    · have hl2 : l = h.length := by
        have := (List.getElem?_eq_some_iff.mp e).1
        simp at this
        omega
      subst hl2
      rw [List.getElem?_append_right (Nat.le_refl _)] at e
      simp at e
      subst e
      exact ⟨D, he, z, acc, hD, Rps.map (fun _ _ z => z) ad_at (ad_ro hD) rs⟩
end

section
variable {X : Cx} {g : Gm} {G : Env} {W : WX} {pos : Pos} {lk : Addr → Option Obj} {ms : List Addr} {h : PH} {H : Hp}
theorem wipe_sl {σp : Sto} {σ : L2.St} (sl : g.SlR H ms σp σ) : ∀ vs : List Nat, g.SlR H ms (wipeP σp vs) (wipe σ vs)
  | [] => sl
  | v :: vs => Paired.set (x := (none : Option PV)) (y := (none : Option V)) trivial v (wipe_sl sl vs)
theorem unlock_len (s : Src) (h : PH) : (s.unlock h).length = h.length := by
  unfold Src.unlock
  split
  · split <;> simp
  · split <;> simp
  · rfl
theorem wipe_wipe {σ : L2.St} {vs : List Nat} : wipe (wipe σ vs) vs = wipe σ vs := by
  refine List.ext_getElem? fun j => ?_
  rw [wipe_at, wipe_at, wipe_length]
  split
  · rfl
  · rfl
abbrev W0 : WX := fun _ _ _ _ => False
/-- one turn's evaluator -/
def lcT (G : Env) (t : Tg) (c : Option E) (e : E) (own : List Nat) (σ : Sto) : PV → PH → Res (Option PV) := fun x h => (tgt G t x (wipeP σ own) h).bind fun σ2 h => (evC G c σ2 h).bind fun b h => if b then (ev G e σ2 h).bind fun v h => .ok (some v) h else .ok none h
theorem lc_red {t : Tg} {i : It'} {c : Option E} {e : E} {own is : List Nat} {σ : L2.St} {Q : VK} (hs : ∀ i ∈ is, i ∈ own) (hh : tE g W (ev G (.lc t i c e own)) σ H Q) :
    tLc (tI g W (evSrc G i)) (tG g W0 is (tgt G t)) (tT g W0 (evC G c)) (tE g W0 (ev G e)) own σ H Q := by
  obtain ⟨lk, ms, σp, h, hR, sl, P⟩ := hh
  simp only [ev] at P
  refine ⟨lk, ms, σp, h, hR, sl, ?_⟩
  cases hsrc : evSrc G i σp h with
  | bad => rw [hsrc] at P; exact P
  | exc c h1 => rw [hsrc] at P; exact P
  | ok s h1 =>
    rw [hsrc] at P
    obtain ⟨T, hT⟩ : ∃ T, T = lcT G t c e own σp := ⟨_, rfl⟩
    have P1 : PostR g lk ms H (rV g) ((loopC s T s.all [] (s.lock h1)).bind fun vs h => .ok (.ref h.length) (h ++ [.lst vs])) Q (fun c d H' => W c d σ H') := by rw [hT]; exact P
    intro J ms1 H1 lk1 k1 so D hD
    have P2 := P1.from k1
    have nD : D ∉ ms1 := so.hr.fresh hD
    refine ⟨fun i m H => ∃ ms2 h2 acc accV, Keep ms1 H1 ms2 H ∧ g.HR lk1 ms2 h2 H ∧ H D = some (.lst accV) ∧ D ∉ ms2 ∧ g.Rps H ms2 acc accV ∧ acc.length ≤ sizeLine ∧ i ≤ s.all.length ∧ m = s.all.length - i ∧
      PostR g lk ms1 H1 (rV g) ((loopC s T (s.all.drop i) acc h2).bind fun vs h => .ok (.ref h.length) (h ++ [.lst vs])) Q (fun c d H' => W c d σ H'), ⟨s.all.length - 0, ?_⟩, ?_⟩
    · obtain ⟨k, r⟩ := HR.beside (o := .lst []) so.hr hD
      exact ⟨ms1, _, [], [], k, r, upd_same, nD, .nil, Nat.zero_le _, Nat.zero_le _, rfl, by rw [List.drop_zero]; exact P2⟩
    · rintro i m H2 ⟨ms2, h2, acc, accV, k2, hR2, eD, nD2, ra, za, hi, rfl, P3⟩
      by_cases hlt : i < s.all.length
      · -- a turn
        have ed : s.all.drop i = s.all[i] :: s.all.drop (i + 1) := List.drop_eq_getElem_cons hlt
        rw [ed] at P3
        simp only [loopC] at P3
        by_cases ok : s.ok h2 = true
        · rw [if_pos ok] at P3
          obtain ⟨go, yl⟩ := so.its.1 i ms2 h2 H2 k2 hR2 ok hlt
          refine .inr ⟨go, fun H' => ∃ ms2 h2 acc accV, Keep ms1 H1 ms2 H' ∧ g.HR lk1 ms2 h2 H' ∧ H' D = some (.lst accV) ∧ D ∉ ms2 ∧ g.Rps H' ms2 acc accV ∧ acc.length ≤ sizeLine ∧
            PostR g lk ms1 H1 (rV g) ((loopC s T (s.all.drop (i + 1)) acc h2).bind fun vs h => .ok (.ref h.length) (h ++ [.lst vs])) Q (fun c d H' => W c d σ H'), ?_, ?_⟩
          · rintro H' ⟨ms3, h3, acc3, accV3, a1, a2, a3, a4, a5, a6, a7⟩
            exact ⟨s.all.length - (i + 1), by omega, ms3, h3, acc3, accV3, a1, a2, a3, a4, a5, a6, hlt, rfl, a7⟩
          · intro x H3 hy
            obtain ⟨p, ep, k3, hR3, rx⟩ := yl x H3 hy
            rw [List.getElem?_eq_getElem hlt] at ep
            have ep' : s.all[i] = p := Option.some.inj ep
            rw [ep'] at P3
            have sl3 : g.SlR H3 ms2 σp σ := SlR.ext hR2 k3 (SlR.ext so.hr k2 (SlR.ext hR k1 sl))
            obtain ⟨eD3, nD3⟩ := k3.2 D _ eD nD2
            have ra3 := Rps.ext hR2 k3 ra
            refine ⟨lk1, ms2, wipeP σp own, h2, p, hR3, wipe_sl sl3 own, rx, ?_⟩
            have et : T p h2 = (tgt G t p (wipeP σp own) h2).bind fun σ2 h => (evC G c σ2 h).bind fun b h => if b then (ev G e σ2 h).bind fun v h => .ok (some v) h else .ok none h := by rw [hT]; rfl
            rw [et] at P3
            cases hg : tgt G t p (wipeP σp own) h2 with
            | bad => rw [hg] at P3; exact P3
            | exc c' h3 => rw [hg] at P3; exact False.elim P3
            | ok σ2 h3 =>
              rw [hg] at P3; dsimp only [Res.bind] at P3
              intro ms4 H4 σ4 k4 hR4 so4
              obtain ⟨sl4, off⟩ := so4
              obtain ⟨eD4, nD4⟩ := k4.2 D _ eD3 nD3
              have ra4 := Rps.ext hR3 k4 ra3
              refine ⟨(off.wipe hs).trans wipe_wipe, lk1, ms4, σ2, h3, hR4, sl4, ?_⟩
              cases hc : evC G c σ2 h3 with
              | bad => rw [hc] at P3; exact P3
              | exc c' h4 => rw [hc] at P3; exact False.elim P3
              | ok b h4 =>
                rw [hc] at P3; dsimp only [Res.bind] at P3
                intro ms5 H5 b' k5 hR5 eb
                have eb : b = b' := eb
                subst eb
                obtain ⟨eD5, nD5⟩ := k5.2 D _ eD4 nD4
                have ra5 := Rps.ext hR4 k5 ra4
                cases b with
                | false =>
                  rw [if_neg Bool.false_ne_true]
                  exact ⟨ms5, h4, acc, accV, ((k2.trans k3).trans k4).trans k5, hR5, eD5, nD5, ra5, za, P3⟩
                | true =>
                  rw [if_pos rfl]
                  refine ⟨lk1, ms5, σ2, h4, hR5, SlR.ext hR4 k5 sl4, ?_⟩
                  cases he : ev G e σ2 h4 with
                  | bad => rw [if_pos rfl, he] at P3; dsimp only at P3; exact P3
                  | exc c' h5 => rw [if_pos rfl, he] at P3; dsimp only at P3; exact False.elim P3
                  | ok v h5 =>
                    rw [if_pos rfl, he] at P3; dsimp only at P3
                    intro ms6 H6 y k6 hR6 ry
                    obtain ⟨eD6, nD6⟩ := k6.2 D _ eD5 nD5
                    have ra6 := Rps.ext hR5 k6 ra5
                    by_cases hz : acc.length < sizeLine
                    · rw [if_pos hz] at P3
                      refine ⟨accV, eD6, by rw [← ra6.length]; exact hz, ms6, h5, acc ++ [v], accV ++ [y], ?_, HR.offD hR6 eD6 nD6, upd_same, nD6, ?_, by rw [List.length_append, List.length_singleton]; exact hz, P3⟩
                      · have kk := (((k2.trans k3).trans k4).trans k5).trans k6
                        exact ⟨kk.1, fun a o ea na => by
                          have ne : a ≠ D := by rintro rfl; rw [hD] at ea; cases ea
                          rw [upd_ne ne]
                          exact kk.2 a o ea na⟩
                      · exact Rps.map (off_t eD6) (fun _ _ z => z) (off_ro eD6) (ra6.snoc ry)
                    · rw [if_neg hz] at P3; exact False.elim P3
        · rw [if_neg ok] at P3; exact False.elim P3
      · -- the end
        have he : i = s.all.length := by omega
        subst he
        rw [List.drop_length] at P3
        simp only [loopC] at P3
        by_cases ok : s.ok h2 = true
        · rw [if_pos ok] at P3
          refine .inl ⟨so.its.2 _ ms2 h2 H2 k2 hR2 ok (Nat.le_refl _), ?_⟩
          have hU := so.un ms2 h2 H2 hR2 k2
          obtain ⟨hA, eA⟩ := HR.adopt (xs := acc) hU eD nD2 za ra
          have P4 : PostR g lk ms1 H1 (rV g) (.ok (.ref (s.unlock h2).length) (s.unlock h2 ++ [.lst acc])) Q (fun c d H' => W c d σ H') := P3
          refine PostR.intro P4 ?_ hA (.ref eA)
          exact ⟨k2.1.trans (List.prefix_append _ _), fun a o ea na => by
            have ne : a ≠ D := by rintro rfl; rw [hD] at ea; cases ea
            obtain ⟨b1, b2⟩ := k2.2 a o ea na
            exact ⟨b1, fun m => by
              rcases List.mem_append.mp m with m | m
              · exact b2 m
              · exact ne (List.mem_singleton.mp m)⟩⟩
        · rw [if_neg ok] at P3; exact False.elim P3
end
end Z
end

section
set_option Elab.async false
set_option linter.all false
set_option maxRecDepth 100000
set_option autoImplicit false
set_option maxHeartbeats 2000000
/-! S16: statements. -/
namespace Z
open PySem PySem.Spec PyProof.Rows L2

def PostS (g : Gm) (lk : Addr → Option Obj) (ms : List Addr) (H : Hp) (r : SRes) (D : Ends) (W : WX) : Prop := match r with
  | .go .nx σp h' => ∀ ms' H' σ', Keep ms H ms' H' → g.HR lk ms' h' H' → g.SlR H' ms' σp σ' → D.nx σ' H'
  | .go .brk σp h' => ∀ ms' H' σ', Keep ms H ms' H' → g.HR lk ms' h' H' → g.SlR H' ms' σp σ' → D.bk σ' H'
  | .go (.ret v) _ h' => ∀ ms' H' u, Keep ms H ms' H' → g.HR lk ms' h' H' → g.Rp H' ms' v u → D.rt u H'
  | .exc c σp h' => ∀ ms' H' σ' C, Keep ms H ms' H' → g.HR lk ms' h' H' → g.SlR H' ms' σp σ' → g.cl c = some C → W (.ref C) none σ' H'
  | .bad => False
def tS (g : Gm) (W : WX) (d : Sto → PH → SRes) : TS := fun D σ H => ∃ lk ms σp h, g.HR lk ms h H ∧ g.SlR H ms σp σ ∧ PostS g lk ms H (d σp h) D W
section
variable {X : Cx} {g : Gm} {G : Env} {W : WX} {pos : Pos} {lk : Addr → Option Obj} {ms ms1 : List Addr} {h : PH} {H H1 : Hp} {D D' : Ends} {σ : L2.St} {σp : Sto}
theorem PostS.from {r : SRes} (p : PostS g lk ms H r D W) (k : Keep ms H ms1 H1) : PostS g lk ms1 H1 r D W := by
  cases r with
  | go f σp h' => cases f with
    | nx => exact fun ms' H' σ' k' => p ms' H' σ' (k.trans k')
    | brk => exact fun ms' H' σ' k' => p ms' H' σ' (k.trans k')
    | ret v => exact fun ms' H' u k' => p ms' H' u (k.trans k')
  | exc c σp h' => exact fun ms' H' σ' C k' => p ms' H' σ' C (k.trans k')
  | bad => exact p
theorem s_nil : PSs X [] (tS g W (exs G [])) := pss_nil.mono fun D σ H ⟨lk, ms, σp, h, hR, sl, P⟩ => by
  simp only [exs] at P
  exact P ms H σ Keep.refl hR sl
theorem s_cons {st : Stmt} {rest : List Stmt} {s : S} {ss : List S} (h1 : PS X st (tS g W (ex G s))) (h2 : PSs X rest (tS g W (exs G ss))) : PSs X (st :: rest) (tS g W (exs G (s :: ss))) :=
  (pss_cons h1 h2).mono fun D σ H ⟨lk, ms, σp, h, hR, sl, P⟩ => by
    simp only [exs] at P
    refine ⟨lk, ms, σp, h, hR, sl, ?_⟩
    cases hr : ex G s σp h with
    | go f σ' h' => cases f with
      | nx => rw [hr] at P; exact fun ms' H' σ2 k hR' sl' => ⟨lk, ms', σ', h', hR', sl', PostS.from P k⟩
      | brk => rw [hr] at P; exact P
      | ret v => rw [hr] at P; exact P
    | exc c σ' h' => rw [hr] at P; exact P
    | bad => rw [hr] at P; exact P
/-- an expression first -/
theorem ev_then {r : Res PV} {f : PV → PH → SRes} {Q : VK} (hR : g.HR lk ms h H) (sl : g.SlR H ms σp σ) (P : PostS g lk ms H (match r with
    | .ok v h => f v h
    | .exc c h => .exc c σp h
    | .bad => .bad) D W) (hq : ∀ ms' h' H' v u, Keep ms H ms' H' → g.HR lk ms' h' H' → g.SlR H' ms' σp σ → g.Rp H' ms' v u → PostS g lk ms' H' (f v h') D W → Q u H') : PostR g lk ms H (rV g) r Q (fun c d H' => W c d σ H') := by
  cases r with
  | ok v h1 => exact fun ms' H' u k hR' ru => hq ms' h1 H' v u k hR' (sl.ext hR k) ru (PostS.from P k)
  | exc c h1 => exact fun ms' H' C k hR' hc => P ms' H' σ C k hR' (sl.ext hR k) hc
  | bad => exact P
theorem asg_post {t : Tg} {is : List Nat} {v : PV} {x : V} (hR : g.HR lk ms h H) (sl : g.SlR H ms σp σ) (rx : g.Rp H ms v x) (P : PostS g lk ms H (ofRes σp (tgt G t v σp h)) D W) : tG g W is (tgt G t) x σ H D.nx := by
  refine ⟨lk, ms, σp, h, v, hR, sl, rx, ?_⟩
  cases ht : tgt G t v σp h with
  | ok σ2 h2 => rw [ht] at P; exact fun ms' H' σ' k hR' sl' => P ms' H' σ' k hR' sl'.1
  | exc c h2 => rw [ht] at P; exact fun ms' H' C k hR' hc => P ms' H' σ C k hR' (sl.ext hR k) hc
  | bad => rw [ht] at P; exact P
theorem asg_red {t : Tg} {e : E} {is : List Nat} (P : tS g W (ex G (.asg t e)) D σ H) : tAsg (tE g W (ev G e)) (tG g W is (tgt G t)) D σ H := by
  obtain ⟨lk, ms, σp, h, hR, sl, P⟩ := P
  simp only [ex] at P
  exact ⟨lk, ms, σp, h, hR, sl, ev_then hR sl P fun ms' h' H' v u k hR' sl' ru p => asg_post hR' sl' ru p⟩
theorem s_asg {tg e : Expr} {t : Tg} {ee : E} {is : List Nat} (he : PE X e (tE g W (ev G ee))) (hg : PG X tg (tG g W is (tgt G t))) (hs : swapsWithSole [tg] e pos.line X.env = pure false) (hw : swappedStores [tg] e X.env = pure none)
    (h1 : (assignEach [tg] X.env).map (·.2) = [assign tg X.env]) : PS X (.Assign [tg] e pos) (tS g W (ex G (.asg t ee))) := (ps_asg he hg hs hw h1).mono fun D σ H P => asg_red P
theorem s_setLc {i : Nat} {y : Str} {py : Pos} {elt tg iter : Expr} {ifs : List Expr} {scope : Scope} {own : List (Str × Nat)} {p2 spos : Pos} {is : List Nat} {t : Tg} {it : It'} {c : Option E} {e : E} (hc : X.calm = true) (hN : X.N.Nodup) (hy : X.N[i]? = some y) (hyl : X.env.scope.names.lookup y = some .local)
    (hsw : swapsWith (.ListComp elt [⟨tg, iter, ifs, 0⟩] scope p2) (some (.Name y py)) spos.line X.env = pure true) (hi : PI X tg iter (tI g W (evSrc G it))) (ok : BlkOk X.N X.env.scope scope own) (his : ∀ i ∈ is, i ∈ own.map (·.2))
    (hg : ∀ (s : Shared) (H : Hp) (C : Addr) (cl : List (Str × Addr)) (fp : List Addr), PG (X.blk s H scope (compEnvC scope cl C X.env) fp) tg (tG g W0 is (tgt G t))) (ht : ∀ (s : Shared) (H : Hp) (C : Addr) (cl : List (Str × Addr)) (fp : List Addr), PTs (X.blk s H scope (compEnvC scope cl C X.env) fp) ifs (tT g W0 (evC G c)))
    (he : ∀ (s : Shared) (H : Hp) (C : Addr) (cl : List (Str × Addr)) (fp : List Addr), PE (X.blk s H scope (compEnvC scope cl C X.env) fp) elt (tE g W0 (ev G e))) (hs : ∀ x, foldedSetIterable iter X.env x = pure x) :
    PS X (.Assign [.Name y py] (.ListComp elt [⟨tg, iter, ifs, 0⟩] scope p2) spos) (tS g W (ex G (.asg (.nm i) (.lc t it c e (own.map (·.2)))))) :=
  (ps_setLc hc hN hy hyl hsw hi ok hg ht he hs).mono fun D σ H P => by
    obtain ⟨lk, ms, σp, h, hR, sl, P⟩ := asg_red (is := [i]) P
    refine lc_red (W := W) his ⟨lk, ms, σp, h, hR, sl, P.mono ?_⟩
    rintro x H1 ⟨lk1, ms1, σp1, h1, v, hR1, sl1, rv, P1⟩
    simp only [tgt] at P1
    exact P1 ms1 H1 _ Keep.refl hR1 ⟨Paired.set (x := some v) (y := some x) rv i sl1, Off.set⟩
theorem r_lc {elt tg iter : Expr} {ifs : List Expr} {scope : Scope} {own : List (Str × Nat)} {p2 : Pos} {is : List Nat} {t : Tg} {it : It'} {c : Option E} {e : E} (hc : X.calm = true) (hN : X.N.Nodup) (hi : PI X tg iter (tI g W (evSrc G it))) (ok : BlkOk X.N X.env.scope scope own) (his : ∀ i ∈ is, i ∈ own.map (·.2))
    (hg : ∀ (s : Shared) (H : Hp) (C : Addr) (cl : List (Str × Addr)) (fp : List Addr), PG (X.blk s H scope (compEnvC scope cl C X.env) fp) tg (tG g W0 is (tgt G t))) (ht : ∀ (s : Shared) (H : Hp) (C : Addr) (cl : List (Str × Addr)) (fp : List Addr), PTs (X.blk s H scope (compEnvC scope cl C X.env) fp) ifs (tT g W0 (evC G c)))
    (he : ∀ (s : Shared) (H : Hp) (C : Addr) (cl : List (Str × Addr)) (fp : List Addr), PE (X.blk s H scope (compEnvC scope cl C X.env) fp) elt (tE g W0 (ev G e))) (hs : ∀ x, foldedSetIterable iter X.env x = pure x) :
    PE X (.ListComp elt [⟨tg, iter, ifs, 0⟩] scope p2) (tE g W (ev G (.lc t it c e (own.map (·.2))))) := (pe_lc hc hN hi ok hg ht he hs).mono fun σ H Q P => lc_red his P
theorem s_par {i j : Nat} {x y : Str} {a b : Expr} {ea eb : E} {px py pt : Pos} {kt k2 : Nat} {pt2 : Pos} (hc : X.calm = true) (hN : X.N.Nodup) (hi : X.N[i]? = some x) (hj : X.N[j]? = some y) (hij : i ≠ j)
    (hx : X.env.scope.names.lookup x = some .local) (hy : X.env.scope.names.lookup y = some .local) (ha : PA X [a, b] (tA g W (evs G [ea, eb])))
    (hw : swappedStores [.Tuple [.Name x px, .Name y py] kt pt] (.Tuple [a, b] k2 pt2) X.env = pure (some [x, y]))
    (hs : swapsWithSole [.Tuple [.Name x px, .Name y py] kt pt] (.Tuple [a, b] k2 pt2) pos.line X.env = pure false) : PS X (.Assign [.Tuple [.Name x px, .Name y py] kt pt] (.Tuple [a, b] k2 pt2) pos) (tS g W (ex G (.par i j ea eb))) :=
  (ps_par hc hN hi hj hij hx hy ha hw hs).mono fun D σ H ⟨lk, ms, σp, h, hR, sl, P⟩ => by
    simp only [ex] at P
    refine ⟨lk, ms, σp, h, hR, sl, ?_⟩
    simp only [evs]
    cases h1 : ev G ea σp h with
    | ok v h' =>
      rw [h1] at P
      dsimp only [Res.bind] at P ⊢
      cases h2 : ev G eb σp h' with
      | ok u h'' =>
        rw [h2] at P
        intro ms' H' vs k hR' rs
        obtain ⟨a1, a2, rfl, r1, r2⟩ := Rps.inv2 rs
        exact ⟨a1, a2, rfl, P ms' H' _ k hR' (Paired.set (x := some u) (y := some a2) r2 j (Paired.set (x := some v) (y := some a1) r1 i (sl.ext hR k)))⟩
      | exc c h'' => rw [h2] at P; exact fun ms' H' C k hR' hc => P ms' H' σ C k hR' (sl.ext hR k) hc
      | bad => rw [h2] at P; exact P
    | exc c h' => rw [h1] at P; exact fun ms' H' C k hR' hc => P ms' H' σ C k hR' (sl.ext hR k) hc
    | bad => rw [h1] at P; exact P
theorem s_expr {e : Expr} {ee : E} (he : PE X e (tE g W (ev G ee))) (hs : swapsWith e none pos.line X.env = pure false) : PS X (.Expr e pos) (tS g W (ex G (.expr ee))) := (ps_expr he hs).mono fun D σ H ⟨lk, ms, σp, h, hR, sl, P⟩ => by
  simp only [ex] at P
  exact ⟨lk, ms, σp, h, hR, sl, ev_then (f := fun _ h => .go .nx σp h) hR sl P fun ms' h' H' v u k hR' sl' ru p => p ms' H' σ Keep.refl hR' sl'⟩
theorem s_doc {x : Str} {j : Nat} {p2 : Pos} : PS X (.Expr (.Constant (.str x) j p2) pos) (tS g W (ex G .pass)) := ps_doc.mono fun D σ H ⟨lk, ms, σp, h, hR, sl, P⟩ => by
  simp only [ex] at P
  exact P ms H σ Keep.refl hR sl
theorem s_pass : PS X (.Pass pos) (tS g W (ex G .pass)) := ps_pass.mono fun D σ H ⟨lk, ms, σp, h, hR, sl, P⟩ => by
  simp only [ex] at P
  exact P ms H σ Keep.refl hR sl
theorem s_brk : PS X (.Break pos) (tS g W (ex G .brk)) := ps_break.mono fun D σ H ⟨lk, ms, σp, h, hR, sl, P⟩ => by
  simp only [ex] at P
  exact P ms H σ Keep.refl hR sl
theorem s_ret {e : Expr} {ee : E} (he : PE X e (tE g W (ev G ee))) : PS X (.Return (some e) pos) (tS g W (ex G (.ret ee))) := (ps_ret he).mono fun D σ H ⟨lk, ms, σp, h, hR, sl, P⟩ => by
  simp only [ex] at P
  exact ⟨lk, ms, σp, h, hR, sl, ev_then (f := fun v h => .go (.ret v) σp h) hR sl P fun ms' h' H' v u k hR' sl' ru p => p ms' H' u Keep.refl hR' ru⟩
theorem s_retN : PS X (.Return none pos) (tS g W (ex G .retN)) := ps_retN.mono fun D σ H ⟨lk, ms, σp, h, hR, sl, P⟩ => by
  simp only [ex] at P
  exact P ms H .non Keep.refl hR .non
theorem s_ife {c : Expr} {a b : List Stmt} {ec : E} {sa sb : List S} (hc : PT X c (tT g W (evT G ec))) (ha : PSs X a (tS g W (exs G sa))) (hb : PSs X b (tS g W (exs G sb))) : PS X (.If c a b pos) (tS g W (ex G (.ife ec sa sb))) :=
  (ps_if hc ha hb).mono fun D σ H ⟨lk, ms, σp, h, hR, sl, P⟩ => by
    simp only [ex] at P
    refine ⟨lk, ms, σp, h, hR, sl, ?_⟩
    cases h1 : evT G ec σp h with
    | ok k h' =>
      rw [h1] at P
      intro ms' H' k' kk hR' ek
      have ek : k = k' := ek
      subst ek
      cases k with
      | true => exact ⟨lk, ms', σp, h', hR', sl.ext hR kk, PostS.from P kk⟩
      | false => exact ⟨lk, ms', σp, h', hR', sl.ext hR kk, PostS.from P kk⟩
    | exc c h' => rw [h1] at P; exact fun ms' H' C k hR' hc => P ms' H' σ C k hR' (sl.ext hR k) hc
    | bad => rw [h1] at P; exact P
theorem s_whl {c : Expr} {b : List Stmt} {ec : E} {sb : List S} (hp : PassesOwn (model X.prog X.w) X.A X.env X.xe) (hc : PT X c (tT g W (evT G ec))) (hb : PSs X b (tS g W (exs G sb))) : PS X (.While c b [] pos) (tS g W (ex G (.whl ec sb))) :=
  (ps_while hp hc hb).mono fun D σ H ⟨lk, ms, σp, h, hR, sl, P⟩ => by
    simp only [ex] at P
    refine ⟨fun m σ H => ∃ ms σp h, g.HR lk ms h H ∧ g.SlR H ms σp σ ∧ PostS g lk ms H (loopW (evT G ec) (exs G sb) m σp h) D W, ⟨nfuel, ms, σp, h, hR, sl, P⟩, ?_⟩
    rintro m σ H ⟨ms, σp, h, hR, sl, P⟩
    cases m with
    | zero => exact False.elim P
    | succ m =>
      rw [loopW] at P
      refine ⟨lk, ms, σp, h, hR, sl, ?_⟩
      cases h1 : evT G ec σp h with
      | ok k h' =>
        rw [h1] at P
        intro ms' H' k' kk hR' ek
        have ek : k = k' := ek
        subst ek
        cases k with
        | false => exact P ms' H' σ kk hR' (sl.ext hR kk)
        | true =>
          refine ⟨fun σ H => ∃ ms σp h, g.HR lk ms h H ∧ g.SlR H ms σp σ ∧ PostS g lk ms H (loopW (evT G ec) (exs G sb) m σp h) D W, fun σ' H' q => ⟨m, Nat.lt_succ_self m, q⟩, lk, ms', σp, h', hR', sl.ext hR kk, ?_⟩
          dsimp only at P
          cases h2 : exs G sb σp h' with
          | go f σ2 h2' => cases f with
            | nx => rw [h2] at P; exact fun ms2 H2 σ3 k2 hR2 sl2 => ⟨ms2, σ2, h2', hR2, sl2, PostS.from P (kk.trans k2)⟩
            | brk => rw [h2] at P; exact fun ms2 H2 σ3 k2 hR2 sl2 => P ms2 H2 σ3 (kk.trans k2) hR2 sl2
            | ret v => rw [h2] at P; exact fun ms2 H2 u k2 hR2 ru => P ms2 H2 u (kk.trans k2) hR2 ru
          | exc c σ2 h2' => rw [h2] at P; exact fun ms2 H2 σ3 C k2 hR2 sl2 hc => P ms2 H2 σ3 C (kk.trans k2) hR2 sl2 hc
          | bad => rw [h2] at P; exact P
      | exc c h' => rw [h1] at P; exact fun ms' H' C k hR' hc => P ms' H' σ C k hR' (sl.ext hR k) hc
      | bad => rw [h1] at P; exact P
/-- one turn's body -/
def forB (G : Env) (t : Tg) (b : List S) : PV → Sto → PH → SRes := fun x σ h => match tgt G t x σ h with
  | .ok σ2 h2 => exs G b σ2 h2
  | .exc c h => .exc c σ h
  | .bad => .bad
theorem s_for {tg iter : Expr} {b : List Stmt} {t : Tg} {it : It'} {sb : List S} {is : List Nat} (hp : PassesOwn (model X.prog X.w) X.A X.env X.xe) (hc : X.calm = true) (hi : PI X tg iter (tI g W (evSrc G it))) (hg : PG X tg (tG g W is (tgt G t))) (hb : PSs X b (tS g W (exs G sb)))
    (hs : ∀ x, foldedSetIterable iter X.env x = pure x) : PS X (.For tg iter b [] pos) (tS g W (ex G (.for_ t it sb))) :=
  (ps_for hp hc hi hg hb hs).mono fun D σ H ⟨lk, ms, σp, h, hR, sl, P⟩ => by
    simp only [ex] at P
    refine ⟨lk, ms, σp, h, hR, sl, ?_⟩
    cases hsrc : evSrc G it σp h with
    | bad => rw [hsrc] at P; exact P
    | exc c h1 => rw [hsrc] at P; exact fun ms' H' C k hR' hc => P ms' H' σ C k hR' (sl.ext hR k) hc
    | ok s h1 =>
      rw [hsrc] at P
      obtain ⟨B, hB⟩ : ∃ B, B = forB G t sb := ⟨_, rfl⟩
      have P1 : PostS g lk ms H (loopL s B s.all σp (s.lock h1)) D W := by rw [hB]; exact P
      intro J ms1 H1 lk1 k1 so
      have P2 := P1.from k1
      refine ⟨fun i m σ H => ∃ ms2 σp2 h2, Keep ms1 H1 ms2 H ∧ g.HR lk1 ms2 h2 H ∧ g.SlR H ms2 σp2 σ ∧ i ≤ s.all.length ∧ m = s.all.length - i ∧ PostS g lk ms1 H1 (loopL s B (s.all.drop i) σp2 h2) D W,
        ⟨s.all.length - 0, ms1, σp, _, Keep.refl, so.hr, sl.ext hR k1, Nat.zero_le _, rfl, by rw [List.drop_zero]; exact P2⟩, ?_⟩
      rintro i m σ2 H2 ⟨ms2, σp2, h2, k2, hR2, sl2, hi, rfl, P3⟩
      by_cases hlt : i < s.all.length
      · have ed : s.all.drop i = s.all[i] :: s.all.drop (i + 1) := List.drop_eq_getElem_cons hlt
        rw [ed] at P3
        simp only [loopL] at P3
        by_cases ok : s.ok h2 = true
        · rw [if_pos ok] at P3
          obtain ⟨go, yl⟩ := so.its.1 i ms2 h2 H2 k2 hR2 ok hlt
          refine .inr ⟨go, fun σ H => ∃ ms2 σp2 h2, Keep ms1 H1 ms2 H ∧ g.HR lk1 ms2 h2 H ∧ g.SlR H ms2 σp2 σ ∧ PostS g lk ms1 H1 (loopL s B (s.all.drop (i + 1)) σp2 h2) D W, ?_, ?_⟩
          · rintro σ' H' ⟨ms3, σp3, h3, a1, a2, a3, a4⟩
            exact ⟨s.all.length - (i + 1), by omega, ms3, σp3, h3, a1, a2, a3, hlt, rfl, a4⟩
          · intro x H3 hy
            obtain ⟨p, ep, k3, hR3, rx⟩ := yl x H3 hy
            rw [List.getElem?_eq_getElem hlt] at ep
            have ep' : s.all[i] = p := Option.some.inj ep
            rw [ep'] at P3
            have sl3 : g.SlR H3 ms2 σp2 σ2 := SlR.ext hR2 k3 sl2
            have kk3 := k2.trans k3
            refine ⟨lk1, ms2, σp2, h2, p, hR3, sl3, rx, ?_⟩
            have et : B p σp2 h2 = forB G t sb p σp2 h2 := by rw [hB]
            rw [et] at P3
            unfold forB at P3
            cases hg : tgt G t p σp2 h2 with
            | bad => rw [hg] at P3; exact P3
            | exc c' h3 =>
              rw [hg] at P3
              exact fun ms' H' C k hR' hc => P3 ms' H' σ2 C (kk3.trans k) (so.un ms' h3 H' hR' (kk3.trans k)) (SlR.ext hR3 k sl3) hc
            | ok σ4 h4 =>
              rw [hg] at P3
              dsimp only at P3
              intro ms4 H4 σ5 k4 hR4 so4
              obtain ⟨sl4, _⟩ := so4
              have kk4 := kk3.trans k4
              refine ⟨lk1, ms4, σ4, h4, hR4, sl4, ?_⟩
              cases hb : exs G sb σ4 h4 with
              | go f σ6 h6 => cases f with
                | nx => rw [hb] at P3; exact fun ms' H' σ' k hR' sl' => ⟨ms', σ6, h6, kk4.trans k, hR', sl', P3⟩
                | brk => rw [hb] at P3; exact fun ms' H' σ' k hR' sl' => P3 ms' H' σ' (kk4.trans k) (so.un ms' h6 H' hR' (kk4.trans k)) sl'
                | ret v => rw [hb] at P3; exact fun ms' H' u k hR' ru => P3 ms' H' u (kk4.trans k) (so.un ms' h6 H' hR' (kk4.trans k)) ru
              | exc c σ6 h6 => rw [hb] at P3; exact fun ms' H' σ' C k hR' sl' hc => P3 ms' H' σ' C (kk4.trans k) (so.un ms' h6 H' hR' (kk4.trans k)) sl' hc
              | bad => rw [hb] at P3; exact P3
        · rw [if_neg ok] at P3; exact False.elim P3
      · have he : i = s.all.length := by omega
        subst he
        rw [List.drop_length] at P3
        simp only [loopL] at P3
        by_cases ok : s.ok h2 = true
        · rw [if_pos ok] at P3
          exact .inl ⟨so.its.2 _ ms2 h2 H2 k2 hR2 ok (Nat.le_refl _), P3 ms2 H2 σ2 k2 (so.un ms2 h2 H2 hR2 k2) sl2⟩
        · rw [if_neg ok] at P3; exact False.elim P3
end
end Z
end

section
set_option Elab.async false
set_option linter.all false
set_option maxRecDepth 100000
set_option autoImplicit false
set_option maxHeartbeats 4000000
/-! S17: the checker of expressions, and that it tells the truth. -/
namespace Z
open PySem PySem.Spec PyProof.Rows L2

/-- what a def knows: its names; the defs (name, number, how many arguments); the built-in names that are free -/
structure Ck where
  N : List Str
  fns : List (Str × Nat × Nat)
  blt : List Str
structure Ctx (g : Gm) (G : Env) (C : Ck) (sc : Scope) (X : Cx) : Prop where
  sc : X.env.scope = sc
  K : X.K = g.K
  w : X.w = g.w
  N : X.N = C.N
  nd : X.N.Nodup
  calm : X.calm = true
  un : X.A.units + 70 < cLine
  blt : ∀ x, x ∈ C.blt → X.mg x = none
  fns : ∀ p : Str × Nat × Nat, p ∈ C.fns → ∃ k fa fd ps, FnOk X.prog X.w X.K X.mg X.base (L2.CX X.prog X.w) k fa fd ps (spZ g G p.2.1 p.2.2) ∧ Room k X.A ∧ X.mg p.1 = some (.ref fa) ∧ PySem.W.keepIn X.K (.ref fa) = true ∧ Binds X.K fd ps []
theorem Ctx.blk {g : Gm} {G : Env} {C : Ck} {sc : Scope} {X : Cx} (c : Ctx g G C sc X) (scope : Scope) (s : Shared) (H : Hp) (Ca : Addr) (cl : List (Str × Addr)) (fp : List Addr) : Ctx g G C (relS scope sc) (X.blk s H scope (compEnvC scope cl Ca X.env) fp) :=
  ⟨by rw [← c.sc]; rfl, c.K, c.w, c.N, c.nd, c.calm, c.un, c.blt, c.fns⟩
def visB (sc : Scope) (x : Str) : Bool := match sc.names.lookup x with
  | some .local => true
  | some .cell => true
  | some .free => true
  | _ => false
def gloB (sc : Scope) (x : Str) : Bool := match sc.names.lookup x with
  | some .globalImplicit => true
  | _ => false
def locB (fl : Bool) (sc : Scope) (x : Str) : Bool := match sc.names.lookup x with
  | some .local => true
  | some .cell => fl
  | _ => false
def notStar : Expr → Bool
  | .Starred _ _ => false
  | _ => true
def notSlice : Expr → Bool
  | .Slice _ _ _ _ => false
  | _ => true
def notSet : Expr → Bool
  | .Set _ _ _ => false
  | _ => true
def notCall0 : Expr → Bool
  | .Call _ [] [] _ => false
  | _ => true
def isBlt (C : Ck) (sc : Scope) (x : Str) : Bool := gloB sc x && decide (x ∈ C.blt)
mutual
def chkE (C : Ck) (sc : Scope) : E → Expr → Bool
  | .var i, a => match a with
    | .Name x _ => decide (C.N[i]? = some x) && visB sc x && !(x == ("__debug__" : Str)) && !(x == ("__classdict__" : Str))
    | _ => false
  | .non, a => match a with
    | .Constant .none _ _ => true
    | _ => false
  | .bl b, a => match a with
    | .Constant (.bool b') _ _ => decide (b = b')
    | _ => false
  | .int b, a => match a with
    | .Constant (.int b') _ _ => decide (b = b')
    | _ => false
  | .str b, a => match a with
    | .Constant (.str b') _ _ => decide (b = b')
    | _ => false
  | .cst _ _, _ => false
  | .op o x y, a => match a with
    | .BinOp x' o' y' _ => decide (o' = opM o) && chkE C sc x x' && chkE C sc y y'
    | _ => false
  | .neg x, a => match a with
    | .UnaryOp .USub x' _ => chkE C sc x x'
    | _ => false
  | .not x, a => match a with
    | .UnaryOp .Not x' _ => chkE C sc x x'
    | _ => false
  | .and es, a => match a with
    | .BoolOp .And es' _ => !es.isEmpty && chkEs C sc es es'
    | _ => false
  | .or es, a => match a with
    | .BoolOp .Or es' _ => !es.isEmpty && chkEs C sc es es'
    | _ => false
  | .cmp c x y, a => match a with
    | .Compare x' [c'] [y'] _ => decide (c' = cmM c) && notSet y' && chkE C sc x x' && chkE C sc y y'
    | _ => false
  | .chain c d x y z, a => match a with
    | .Compare x' [c', d'] [y', z'] _ => decide (c' = cmM c) && decide (d' = cmM d) && notSet z' && chkE C sc x x' && chkE C sc y y' && chkE C sc z z'
    | _ => false
  | .fld _ _, _ => false
  | .idx x i, a => match a with
    | .Subscript x' i' _ => notSlice i' && chkE C sc x x' && chkE C sc i i'
    | _ => false
  | .slc x lo hi, a => match a with
    | .Subscript x' (.Slice lo' hi' none _) _ => chkE C sc x x' && chkO C sc lo lo' && chkO C sc hi hi'
    | _ => false
  | .tup es, a => match a with
    | .Tuple es' _ _ => chkEs C sc es es'
    | _ => false
  | .lst es, a => match a with
    | .List es' _ => chkEs C sc es es'
    | _ => false
  | .dic es, a => match a with
    | .Dict ks vs _ => decide (ks.length ≤ 15) && chkD C sc es ks vs
    | _ => false
  | .call f es, a => match a with
    | .Call (.Name x _) es' [] _ => !es.isEmpty && decide ((x, f, es.length) ∈ C.fns) && gloB sc x && !(x == ("__debug__" : Str)) && chkEs C sc es es'
    | _ => false
  | .mk _ _, _ => false
  | .meth _ _ _, _ => false
  | .bi b es, a => match a with
    | .Call (.Name x _) es' kws _ => decide (x = biN b) && isBlt C sc x && !es.isEmpty && chkEs C sc es es' && (match kws with
      | [] => decide (b ≠ .sortedMin)
      | [⟨some k, .Name y _, _⟩] => decide (b = .sortedMin) && decide (k = ("key" : Str)) && decide (y = ("min" : Str)) && isBlt C sc y && decide (es.length = 1)
      | _ => false)
    | _ => false
  | .bm m o es, a => match a with
    | .Call (.Attribute o' n apos) es' [] cpos => decide (n = bmA m) && bmOk m && notCall0 o' && (apos.endLine == cpos.line) && decide (es'.length < 30) && chkE C sc o o' && chkEs C sc es es'
    | _ => false
  | .isi x t, a => match a with
    | .Call (.Name n _) [x', .Name y _] [] _ => decide (n = ("isinstance" : Str)) && isBlt C sc n && decide (y = Str.ofString (tyS t)) && isBlt C sc y && (match t with
      | .value => false
      | .own _ => false
      | _ => true) && notStar x' && chkE C sc x x'
    | _ => false
  | .lc t i c e own, a => match a with
    | .ListComp e' [⟨tg, iter, ifs, asy⟩] scope _ => decide (asy = 0) && notSet iter && chkI C sc i tg iter && blkC C.N sc scope (own.map fun i => (C.N.getD i default, i)) && (tgIx t).all (fun i => decide (i ∈ own)) && chkT C (relS scope sc) false t tg && nmOnly t && chkE C (relS scope sc) e e' && chkC C (relS scope sc) c ifs
    | _ => false
def chkEs (C : Ck) (sc : Scope) : List E → List Expr → Bool
  | [], as => match as with
    | [] => true
    | _ => false
  | e :: es, as => match as with
    | a :: as => notStar a && chkE C sc e a && chkEs C sc es as
    | _ => false
def chkD (C : Ck) (sc : Scope) : List E → List (Option Expr) → List Expr → Bool
  | [], ks, vs => match ks, vs with
    | [], [] => true
    | _, _ => false
  | [_], _, _ => false
  | k :: v :: r, ks, vs => match ks, vs with
    | some k' :: ks, v' :: vs => chkE C sc k k' && chkE C sc v v' && chkD C sc r ks vs
    | _, _ => false
def chkO (C : Ck) (sc : Scope) : Option E → Option Expr → Bool
  | none, a => a.isNone
  | some e, a => match a with
    | some a => chkE C sc e a
    | none => false
def chkC (C : Ck) (sc : Scope) : Option E → List Expr → Bool
  | none, a => a.isEmpty
  | some e, a => match a with
    | [a] => chkE C sc e a
    | _ => false
def chkI (C : Ck) (sc : Scope) : It' → Expr → Expr → Bool
  | .val e, _, a => chkE C sc e a
  | .rng1 e, _, a => match a with
    | .Call (.Name x _) [a'] [] _ => decide (x = ("range" : Str)) && isBlt C sc x && notStar a' && chkE C sc e a'
    | _ => false
  | .rng2 e f, _, a => match a with
    | .Call (.Name x _) [a', b'] [] _ => decide (x = ("range" : Str)) && isBlt C sc x && notStar a' && notStar b' && chkE C sc e a' && chkE C sc f b'
    | _ => false
  | .rng3 _ _ _, _, _ => false
  | .enum e, tg, a => match a, tg with
    | .Call (.Name x _) [a'] [] _, .Tuple _ _ _ => decide (x = ("enumerate" : Str)) && isBlt C sc x && notStar a' && chkE C sc e a'
    | _, _ => false
  | .zip e f, tg, a => match a, tg with
    | .Call (.Name x _) [a', b'] [] _, .Tuple _ _ _ => decide (x = ("zip" : Str)) && isBlt C sc x && notStar a' && notStar b' && chkE C sc e a' && chkE C sc f b'
    | _, _ => false
  | .items _, _, _ => false
def chkT (C : Ck) (sc : Scope) (fl : Bool) : Tg → Expr → Bool
  | .nm i, a => match a with
    | .Name x _ => decide (C.N[i]? = some x) && locB fl sc x
    | _ => false
  | .tp ts, a => match a with
    | .Tuple es _ _ => nmsOnly ts && chkTs C sc fl ts es
    | _ => false
  | .sub o i, a => match a with
    | .Subscript o' i' _ => notSlice i' && chkE C sc o o' && chkE C sc i i'
    | _ => false
  | .att _ _, _ => false
def chkTs (C : Ck) (sc : Scope) (fl : Bool) : List Tg → List Expr → Bool
  | [], as => match as with
    | [] => true
    | _ => false
  | t :: ts, as => match as with
    | a :: as => notStar a && chkT C sc fl t a && chkTs C sc fl ts as
    | _ => false
/-- the slots that a target sets -/
def tgIx : Tg → List Nat
  | .nm i => [i]
  | .tp ts => tgsIx ts
  | _ => []
def tgsIx : List Tg → List Nat
  | [] => []
  | t :: ts => tgIx t ++ tgsIx ts
end
/-! ### facts by the syntax -/
theorem star_of {e : Expr} {es : List Expr} {env : PySem.Env} (h : notStar e = true) : starEach (e :: es) env = (false, eval e env) :: starEach es env := by
  cases e <;> first | rfl | exact absurd h Bool.false_ne_true
theorem asgE_of {e : Expr} {es : List Expr} {env : PySem.Env} (h : notStar e = true) : assignEach (e :: es) env = (false, assign e env) :: assignEach es env := by
  cases e <;> first | rfl | exact absurd h Bool.false_ne_true
theorem stars_of {env : PySem.Env} {pos : Pos} : ∀ {es : List Expr}, es.all notStar = true → (backTo pos (starEach es env)).any (·.1) = false ∧ (backTo pos (starEach es env)).all (fun x => !x.1) = true
  | [], _ => ⟨rfl, rfl⟩
  | e :: es, h => by
    rw [List.all_cons, Bool.and_eq_true] at h
    obtain ⟨h1, h2⟩ := stars_of (env := env) (pos := pos) h.2
    rw [star_of h.1]
    exact ⟨h1, h2⟩
theorem plain_of {b : Expr} (h : notSlice b = true) : PlainIx b := by
  intro o i
  cases b <;> first | rfl | exact absurd h Bool.false_ne_true
theorem mark_of {b : Expr} {op : CmpOp} (h : notSet b = true) : behindInMarks op b = false := by
  cases b <;> first | rfl | exact absurd h Bool.false_ne_true
theorem fold_of {b : Expr} {env : PySem.Env} (h : notSet b = true) : ∀ x, foldedSetIterable b env x = pure x := by
  intro x
  cases b <;> first | rfl | exact absurd h Bool.false_ne_true
theorem base_of {o : Expr} {attr : Str} {env : PySem.Env} {wh : Sem Value} (h : notCall0 o = true) : attributeBase o attr env wh = wh := by
  cases o <;> first | rfl | skip
  rename_i f args kws pos
  cases args with
  | cons _ _ => cases f <;> rfl
  | nil => cases kws with
    | cons _ _ => cases f <;> rfl
    | nil => exact absurd h Bool.false_ne_true
theorem sub_asg {o i : Expr} {pos : Pos} {env : PySem.Env} (h : notSlice i = true) : ∀ v, assign (.Subscript o i pos) env v = (do
      let ov ← holding [v] (eval o env)
      let iv ← holding [v, ov] (eval i env)
      standAt pos
      holding [v, ov, iv] (setItem ov iv v)
      release [v, ov, iv] []) := by
  intro v
  cases i <;> first | rfl | exact absurd h Bool.false_ne_true
section
variable {g : Gm} {G : Env} {C : Ck} {sc : Scope} {X : Cx} {x : Str}
theorem Ctx.vis (c : Ctx g G C sc X) (h : visB sc x = true) : Vis X.env.scope x := by
  rw [c.sc]
  unfold visB at h
  split at h
  · exact .inl (by assumption)
  · exact .inr (.inl (by assumption))
  · exact .inr (.inr (by assumption))
  · cases h
theorem Ctx.gl (c : Ctx g G C sc X) (h : gloB sc x = true) : Gl X x := by
  show X.env.scope.names.lookup x = _
  rw [c.sc]
  unfold gloB at h
  split at h
  · assumption
  · cases h
theorem Ctx.bl (c : Ctx g G C sc X) (h : isBlt C sc x = true) : Gl X x ∧ X.mg x = none := by
  unfold isBlt at h
  rw [Bool.and_eq_true] at h
  exact ⟨c.gl h.1, c.blt x (of_decide_eq_true h.2)⟩
theorem Ctx.loc {fl : Bool} (c : Ctx g G C sc X) (hf : fl = true → ∀ x, X.fn x = true) (h : locB fl sc x = true) : Loc X.env.scope x ∧ (X.fn x = true ∨ X.env.scope.names.lookup x = some .local) := by
  rw [c.sc]
  unfold locB at h
  split at h
  · exact ⟨.inl (by assumption), .inr (by assumption)⟩
  · exact ⟨.inr (by assumption), .inl (hf h x)⟩
  · cases h
end
end Z
end

section
set_option Elab.async false
set_option linter.all false
set_option maxRecDepth 100000
set_option autoImplicit false
set_option maxHeartbeats 4000000
/-! S18: what the checker says of expressions is so. -/
namespace Z
open PySem PySem.Spec PyProof.Rows L2

section
variable {g : Gm} {G : Env} {C : Ck} {sc : Scope} {X : Cx} {W : WX}
abbrev Bth (g : Gm) (G : Env) (X : Cx) (W : WX) (e : E) (a : Expr) : Prop := PE X a (tE g W (ev G e)) ∧ PT X a (tT g W (evT G e))
theorem bth {e : E} {a : Expr} (c : Ctx g G C sc X) (h : PE X a (tE g W (ev G e))) (he : ∀ whole, isTrue a X.env whole = (do let v ← whole; standAt a.pos; holding [v] (truthy v))) : Bth g G X W e a := ⟨h, t_plain c.K h he⟩
theorem chkEs_star : ∀ {es : List E} {as : List Expr}, chkEs C sc es as = true → as.all notStar = true ∧ as.length = es.length
  | [], as, h => by
    unfold chkEs at h
    split at h
    · exact ⟨rfl, rfl⟩
    · cases h
  | e :: es, as, h => by
    unfold chkEs at h
    split at h
    · rename_i a as'
      simp only [Bool.and_eq_true] at h
      obtain ⟨h1, h2⟩ := chkEs_star h.2
      exact ⟨by rw [List.all_cons, h.1.1, h1]; rfl, by rw [List.length_cons, List.length_cons, h2]⟩
    · cases h
/-- a list of expressions, as arguments, behind and, behind or -/
structure Lst (g : Gm) (G : Env) (X : Cx) (W : WX) (es : List E) (as : List Expr) : Prop where
  pa : PA X as (tA g W (evs G es))
  and : es ≠ [] → ∀ pos, PE X (.BoolOp .And as pos) (tE g W (evAnd G es)) ∧ PW X (.BoolOp .And as pos) (tT g W (andT G es))
  or : es ≠ [] → ∀ pos, PE X (.BoolOp .Or as pos) (tE g W (evOr G es)) ∧ PW X (.BoolOp .Or as pos) (tT g W (orT G es))
theorem lst_nil : Lst g G X W [] [] := ⟨r_nil, fun h => absurd rfl h, fun h => absurd rfl h⟩
theorem lst_cons {e : E} {es : List E} {a : Expr} {as : List Expr} (c : Ctx g G C sc X) (hs : notStar a = true) (he : Bth g G X W e a) (hes : Lst g G X W es as) (hn : as.length = es.length) : Lst g G X W (e :: es) (a :: as) := by
  refine ⟨r_cons he.1 hes.pa (star_of hs), fun _ pos => ?_, fun _ pos => ?_⟩
  · cases es with
    | nil => cases as with
      | nil =>
        refine ⟨(pe_one he.1).mono fun σ H Q q => ?_, w_and1 he.2⟩
        have : evAnd G [e] = ev G e := by funext σ h; rw [evAnd]
        rw [this] at q
        exact q
      | cons _ _ => cases hn
    | cons e2 es => cases as with
      | nil => cases hn
      | cons a2 as =>
        obtain ⟨h1, h2⟩ := hes.and (fun z => nomatch z) pos
        exact ⟨r_and c.K he.1 h1, w_and he.2 h2⟩
  · cases es with
    | nil => cases as with
      | nil =>
        refine ⟨(pe_one he.1).mono fun σ H Q q => ?_, w_or1 he.2⟩
        have : evOr G [e] = ev G e := by funext σ h; rw [evOr]
        rw [this] at q
        exact q
      | cons _ _ => cases hn
    | cons e2 es => cases as with
      | nil => cases hn
      | cons a2 as =>
        obtain ⟨h1, h2⟩ := hes.or (fun z => nomatch z) pos
        exact ⟨r_or c.K he.1 h1, w_or he.2 h2⟩
theorem evT_and {es : List E} : evT G (.and es) = andT G es := by funext σ h; unfold evT andT; rw [ev]
theorem evT_or {es : List E} : evT G (.or es) = orT G es := by funext σ h; unfold evT orT; rw [ev]
theorem ev_and {es : List E} : ev G (.and es) = evAnd G es := by funext σ h; rw [ev]
theorem ev_or {es : List E} : ev G (.or es) = evOr G es := by funext σ h; rw [ev]
theorem tk0 {X : Cx} : Takes X W0 := takes0
theorem own_snd {N : List Str} : ∀ own : List Nat, (own.map fun i => (N.getD i default, i)).map (·.2) = own
  | [] => rfl
  | i :: r => by rw [List.map_cons, List.map_cons, own_snd r]
theorem pts_of {c : Option E} {ifs : List Expr} (h : (c = none ∧ ifs = []) ∨ ∃ e a, c = some e ∧ ifs = [a] ∧ PT X a (tT g W (evT G e))) : PTs X ifs (tT g W (evC G c)) := by
  rcases h with ⟨rfl, rfl⟩ | ⟨e, a, rfl, rfl, h⟩
  · refine ⟨fun pins s σ H Q I ⟨lk, ms, σp, h, hR, sl, P⟩ => pts_nil.run pins s σ H Q I ?_⟩
    simp only [evC] at P
    exact PostR.intro (v := true) (h' := h) P Keep.refl hR rfl
  · have e' : evC G (some e) = evT G e := by funext σ h; rw [evC]; rfl
    rw [e']
    exact pts_one h
mutual
theorem sndE : ∀ (e : E) {sc : Scope} {X : Cx} {W : WX} {a : Expr}, chkE C sc e a = true → Ctx g G C sc X → Takes X W → Bth g G X W e a
  | .var i, sc, X, W, a, h, c, tk => by
    unfold chkE at h
    split at h
    · rename_i x p
      simp only [Bool.and_eq_true, decide_eq_true_eq, Bool.not_eq_true'] at h
      exact bth c (r_var (by rw [c.N]; exact h.1.1.1) (c.vis h.1.1.2) h.1.2 h.2) (by intro _; rfl)
    · cases h
  | .non, sc, X, W, a, h, c, tk => by
    unfold chkE at h
    split at h
    · exact bth c r_non (by intro _; rfl)
    · cases h
  | .bl b, sc, X, W, a, h, c, tk => by
    unfold chkE at h
    split at h
    · have := of_decide_eq_true h
      subst this
      exact bth c r_bl (by intro _; rfl)
    · cases h
  | .int b, sc, X, W, a, h, c, tk => by
    unfold chkE at h
    split at h
    · have := of_decide_eq_true h
      subst this
      exact bth c r_int (by intro _; rfl)
    · cases h
  | .str b, sc, X, W, a, h, c, tk => by
    unfold chkE at h
    split at h
    · have := of_decide_eq_true h
      subst this
      exact bth c r_str (by intro _; rfl)
    · cases h
  | .cst _ _, sc, X, W, a, h, c, tk => by unfold chkE at h; cases h
  | .op o x y, sc, X, W, a, h, c, tk => by
    unfold chkE at h
    split at h
    · simp only [Bool.and_eq_true, decide_eq_true_eq] at h
      obtain ⟨⟨rfl, h1⟩, h2⟩ := h
      exact bth c (r_op c.K o (sndE x h1 c tk).1 (sndE y h2 c tk).1) (by intro _; rfl)
    · cases h
  | .neg x, sc, X, W, a, h, c, tk => by
    unfold chkE at h
    split at h
    · exact bth c (r_neg (sndE x h c tk).1) (by intro _; rfl)
    · cases h
  | .not x, sc, X, W, a, h, c, tk => by
    unfold chkE at h
    split at h
    · have := sndE x h c tk
      exact ⟨r_not c.K this.1, t_not this.2⟩
    · cases h
  | .and es, sc, X, W, a, h, c, tk => by
    unfold chkE at h
    split at h
    · rename_i as pos
      simp only [Bool.and_eq_true, Bool.not_eq_true', List.isEmpty_eq_false_iff] at h
      obtain ⟨h1, h2⟩ := (sndEs es h.2 c tk).and h.1 pos
      exact ⟨by rw [ev_and]; exact h1, by rw [evT_and]; exact h2.pt⟩
    · cases h
  | .or es, sc, X, W, a, h, c, tk => by
    unfold chkE at h
    split at h
    · rename_i as pos
      simp only [Bool.and_eq_true, Bool.not_eq_true', List.isEmpty_eq_false_iff] at h
      obtain ⟨h1, h2⟩ := (sndEs es h.2 c tk).or h.1 pos
      exact ⟨by rw [ev_or]; exact h1, by rw [evT_or]; exact h2.pt⟩
    · cases h
  | .cmp cm x y, sc, X, W, a, h, c, tk => by
    unfold chkE at h
    split at h
    · simp only [Bool.and_eq_true, decide_eq_true_eq] at h
      obtain ⟨⟨⟨rfl, h0⟩, h1⟩, h2⟩ := h
      have s1 := (sndE x h1 c tk).1
      have s2 := (sndE y h2 c tk).1
      exact ⟨r_cmp c.K c.w c.un cm s1 s2 (mark_of h0), t_cmp c.K c.w c.un cm s1 s2 (mark_of h0)⟩
    · cases h
  | .chain cm d x y z, sc, X, W, a, h, c, tk => by
    unfold chkE at h
    split at h
    · simp only [Bool.and_eq_true, decide_eq_true_eq] at h
      obtain ⟨⟨⟨⟨⟨rfl, rfl⟩, h0⟩, h1⟩, h2⟩, h3⟩ := h
      have s1 := (sndE x h1 c tk).1
      have s2 := (sndE y h2 c tk).1
      have s3 := (sndE z h3 c tk).1
      exact ⟨r_chain c.K c.w c.un cm d s1 s2 s3 (mark_of h0), t_chain c.K c.w c.un cm d s1 s2 s3 (mark_of h0)⟩
    · cases h
  | .fld _ _, sc, X, W, a, h, c, tk => by unfold chkE at h; cases h
  | .idx x i, sc, X, W, a, h, c, tk => by
    unfold chkE at h
    split at h
    · simp only [Bool.and_eq_true] at h
      exact bth c (r_idx c.K c.w c.un (sndE x h.1.2 c tk).1 (sndE i h.2 c tk).1 (plain_of h.1.1)) (by intro _; rfl)
    · cases h
  | .slc x lo hi, sc, X, W, a, h, c, tk => by
    unfold chkE at h
    split at h
    · simp only [Bool.and_eq_true] at h
      exact bth c (r_slc c.K (sndE x h.1.1 c tk).1 (sndO lo h.1.2 c tk) (sndO hi h.2 c tk)) (by intro _; rfl)
    · cases h
  | .tup es, sc, X, W, a, h, c, tk => by
    unfold chkE at h
    split at h
    · exact bth c (r_tup (sndEs es h c tk).pa) (by intro _; rfl)
    · cases h
  | .lst es, sc, X, W, a, h, c, tk => by
    unfold chkE at h
    split at h
    · exact bth c (r_lst (sndEs es h c tk).pa) (by intro _; rfl)
    · cases h
  | .dic es, sc, X, W, a, h, c, tk => by
    unfold chkE at h
    split at h
    · rename_i ks vs pos
      simp only [Bool.and_eq_true, decide_eq_true_eq] at h
      obtain ⟨h1, h2, h3, h4, h5⟩ := sndD es h.2 c tk pos
      cases es with
      | nil =>
        obtain ⟨rfl, rfl⟩ := h5 rfl
        exact bth c pe_dnew (by intro _; rfl)
      | cons e0 r =>
        have : ks ≠ [] := by
          rintro rfl
          cases r with
          | nil => simp [chkD] at h
          | cons _ _ => simp [chkD] at h
        exact bth c (pe_dic c.K c.w (by have := c.un; omega) tk h1 h2 h3 h4 this h.1) (by intro _; rfl)
    · cases h
  | .call f es, sc, X, W, a, h, c, tk => by
    unfold chkE at h
    split at h
    · rename_i x p as pos
      simp only [Bool.and_eq_true, Bool.not_eq_true', List.isEmpty_eq_false_iff, decide_eq_true_eq] at h
      obtain ⟨⟨⟨⟨h0, h1⟩, h2⟩, h3⟩, h4⟩ := h
      obtain ⟨k, fa, fd, ps, F, hr, hm, hk, hb⟩ := c.fns _ h1
      have st := chkEs_star h4
      have L := sndEs es h4 c tk
      cases es with
      | nil => exact absurd rfl h0
      | cons e0 es => cases as with
        | nil => exact absurd st.2 (by simp)
        | cons a0 as =>
          have s2 := st.1
          rw [List.all_cons, Bool.and_eq_true] at s2
          exact bth c (r_call F hr (c.gl h2) hm hk hb tk L.pa rfl h3 (star_of s2.1) (stars_of s2.2).1) (by intro _; rfl)
    · cases h
  | .mk _ _, sc, X, W, a, h, c, tk => by unfold chkE at h; cases h
  | .meth _ _ _, sc, X, W, a, h, c, tk => by unfold chkE at h; cases h
  | .bi b es, sc, X, W, a, h, c, tk => by
    unfold chkE at h
    split at h
    · rename_i x p as kws pos
      simp only [Bool.and_eq_true, Bool.not_eq_true', List.isEmpty_eq_false_iff, decide_eq_true_eq] at h
      obtain ⟨⟨⟨⟨h0, h1⟩, h2⟩, h3⟩, h4⟩ := h
      subst h0
      obtain ⟨hg, hm⟩ := c.bl h1
      have st := chkEs_star h3
      have L := sndEs es h3 c tk
      cases es with
      | nil => exact absurd rfl h2
      | cons e0 es => cases as with
        | nil => exact absurd st.2 (by simp)
        | cons a0 as =>
          have s2 := st.1
          rw [List.all_cons, Bool.and_eq_true] at s2
          split at h4
          · exact bth c (r_bi c.calm c.K c.un b (of_decide_eq_true h4) hg hm L.pa (star_of s2.1) (stars_of s2.2).1) (by intro _; rfl)
          · rename_i k y p2 kp
            simp only [Bool.and_eq_true, decide_eq_true_eq] at h4
            obtain ⟨⟨⟨⟨rfl, rfl⟩, rfl⟩, h5⟩, h6⟩ := h4
            have e1 : es = [] := by
              rw [List.length_cons] at h6
              exact List.length_eq_zero_iff.mp (by omega)
            subst e1
            have e2 : as = [] := by
              have := st.2
              rw [List.length_cons, List.length_cons] at this
              exact List.length_eq_zero_iff.mp (by simpa using this)
            subst e2
            obtain ⟨hg2, hm2⟩ := c.bl h5
            unfold chkEs at h3
            simp only [Bool.and_eq_true] at h3
            exact bth c (r_sortedMin c.calm c.K c.un hg hm hg2 hm2 (sndE e0 h3.1.2 c tk).1 (star_of s2.1)) (by intro _; rfl)
          · cases h4
    · cases h
  | .bm m o es, sc, X, W, a, h, c, tk => by
    unfold chkE at h
    split at h
    · rename_i o' n apos as cpos
      simp only [Bool.and_eq_true, decide_eq_true_eq] at h
      obtain ⟨⟨⟨⟨⟨⟨rfl, h1⟩, h2⟩, h3⟩, h4⟩, h5⟩, h6⟩ := h
      have st := chkEs_star h6
      have L := sndEs es h6 c tk
      have so := (sndE o h5 c tk).1
      cases es with
      | nil => cases as with
        | nil => exact bth c (r_bm0 c.K c.w c.un m h1 so (base_of h2) h3) (by intro _; rfl)
        | cons _ _ => exact absurd st.2 (by simp)
      | cons e0 es => cases as with
        | nil => exact absurd st.2 (by simp)
        | cons a0 as =>
          have s2 := st.1
          rw [List.all_cons, Bool.and_eq_true] at s2
          refine bth c (r_bm c.K c.w c.un m h1 so L.pa (base_of h2) ?_ h3 (star_of s2.1) (stars_of s2.2).1) (by intro _; rfl)
          have q := (stars_of (env := X.env) (pos := cpos) st.1).2
          rw [q]
          simp only [Bool.true_and, Bool.and_eq_true]
          exact ⟨rfl, decide_eq_true (by simpa using h4)⟩
    · cases h
  | .isi x t, sc, X, W, a, h, c, tk => by
    unfold chkE at h
    split at h
    · rename_i n p a0 y p2 pos
      simp only [Bool.and_eq_true, decide_eq_true_eq] at h
      obtain ⟨⟨⟨⟨⟨⟨rfl, h1⟩, rfl⟩, h2⟩, h3⟩, h4⟩, h5⟩ := h
      obtain ⟨hg, hm⟩ := c.bl h1
      obtain ⟨hg2, hm2⟩ := c.bl h2
      refine bth c (r_isi c.K ?_ ?_ hg hm hg2 hm2 (sndE x h5 c tk).1 (star_of h4)) (by intro _; rfl)
      · rintro rfl; cases h3
      · rintro k rfl; cases h3
    · cases h
  | .lc t i cc e own, sc, X, W, a, h, c, tk => by
    unfold chkE at h
    split at h
    · rename_i e' tg iter ifs asy scope pos
      simp only [Bool.and_eq_true, decide_eq_true_eq] at h
      obtain ⟨⟨⟨⟨⟨⟨⟨⟨rfl, h1⟩, h2⟩, h3⟩, h4⟩, h5⟩, h6⟩, h7⟩, h8⟩ := h
      have hi := sndI i h2 c tk
      have ok : BlkOk X.N X.env.scope scope (own.map fun i => (C.N.getD i default, i)) := by rw [c.N, c.sc]; exact blkOk_by h3
      refine bth c ?_ (by intro _; rfl)
      have r := r_lc (g := g) (G := G) (W := W) (is := tgIx t) (t := t) (it := i) (c := cc) (e := e) (elt := e') (tg := tg) (iter := iter) (ifs := ifs) (p2 := pos) c.calm c.nd hi ok (by rw [own_snd]; exact fun i hi => of_decide_eq_true (List.all_eq_true.mp h4 i hi))
        (fun s H Ca cl fp => sndT t h5 (c.blk scope s H Ca cl fp) tk0 (fun z => nomatch z)) (fun s H Ca cl fp => sndC cc h8 (c.blk scope s H Ca cl fp) tk0) (fun s H Ca cl fp => (sndE e h7 (c.blk scope s H Ca cl fp) tk0).1) (fold_of h1)
      rw [own_snd] at r
      exact r
    · cases h
theorem sndEs : ∀ (es : List E) {sc : Scope} {X : Cx} {W : WX} {as : List Expr}, chkEs C sc es as = true → Ctx g G C sc X → Takes X W → Lst g G X W es as
  | [], sc, X, W, as, h, c, tk => by
    unfold chkEs at h
    split at h
    · exact lst_nil
    · cases h
  | e :: es, sc, X, W, as, h, c, tk => by
    unfold chkEs at h
    split at h
    · simp only [Bool.and_eq_true] at h
      exact lst_cons c h.1.1 (sndE e h.1.2 c tk) (sndEs es h.2 c tk) (chkEs_star h.2).2
    · cases h
theorem sndD : ∀ (es : List E) {sc : Scope} {X : Cx} {W : WX} {ks : List (Option Expr)} {vs : List Expr}, chkD C sc es ks vs = true → Ctx g G C sc X → Takes X W → ∀ pos, PPs X pos ks vs (trsOf g W G es) ∧ evenB es = true ∧ ks.all (·.isSome) = true ∧ ks.length = vs.length ∧ (es = [] → ks = [] ∧ vs = [])
  | [], sc, X, W, ks, vs, h, c, tk, pos => by
    unfold chkD at h
    split at h
    · exact ⟨pps_nil, rfl, rfl, rfl, fun _ => ⟨rfl, rfl⟩⟩
    · cases h
  | [_], sc, X, W, ks, vs, h, c, tk, pos => by unfold chkD at h; cases h
  | k :: v :: r, sc, X, W, ks, vs, h, c, tk, pos => by
    unfold chkD at h
    split at h
    · simp only [Bool.and_eq_true] at h
      obtain ⟨h1, h2, h3, h4, _⟩ := sndD r h.2 c tk pos
      exact ⟨pps_cons (sndE k h.1.1 c tk).1 (sndE v h.1.2 c tk).1 h1, h2, by rw [List.all_cons, h3]; rfl, by rw [List.length_cons, List.length_cons, h4], fun z => nomatch z⟩
    · cases h
theorem sndO : ∀ (o : Option E) {sc : Scope} {X : Cx} {W : WX} {a : Option Expr}, chkO C sc o a = true → Ctx g G C sc X → Takes X W → L2.PO X a (tO g W (evI G o))
  | none, sc, X, W, a, h, c, tk => by
    unfold chkO at h
    cases a with
    | none => exact r_none
    | some _ => cases h
  | some e, sc, X, W, a, h, c, tk => by
    unfold chkO at h
    split at h
    · exact r_some (sndE e h c tk).1
    · cases h
theorem sndC : ∀ (o : Option E) {sc : Scope} {X : Cx} {W : WX} {a : List Expr}, chkC C sc o a = true → Ctx g G C sc X → Takes X W → PTs X a (tT g W (evC G o))
  | none, sc, X, W, a, h, c, tk => by
    unfold chkC at h
    cases a with
    | nil => exact pts_of (.inl ⟨rfl, rfl⟩)
    | cons _ _ => cases h
  | some e, sc, X, W, a, h, c, tk => by
    unfold chkC at h
    split at h
    · exact pts_of (.inr ⟨e, _, rfl, rfl, (sndE e h c tk).2⟩)
    · cases h
theorem sndI : ∀ (i : It') {sc : Scope} {X : Cx} {W : WX} {tg a : Expr}, chkI C sc i tg a = true → Ctx g G C sc X → Takes X W → PI X tg a (tI g W (evSrc G i))
  | .val e, sc, X, W, tg, a, h, c, tk => by
    unfold chkI at h
    exact r_val c.K (sndE e h c tk).1
  | .rng1 e, sc, X, W, tg, a, h, c, tk => by
    unfold chkI at h
    split at h
    · simp only [Bool.and_eq_true, decide_eq_true_eq] at h
      obtain ⟨⟨⟨rfl, h1⟩, h2⟩, h3⟩ := h
      obtain ⟨hg, hm⟩ := c.bl h1
      exact r_rng1 hg hm (sndE e h3 c tk).1 (star_of h2)
    · cases h
  | .rng2 e f, sc, X, W, tg, a, h, c, tk => by
    unfold chkI at h
    split at h
    · simp only [Bool.and_eq_true, decide_eq_true_eq] at h
      obtain ⟨⟨⟨⟨⟨rfl, h1⟩, h2⟩, h3⟩, h4⟩, h5⟩ := h
      obtain ⟨hg, hm⟩ := c.bl h1
      exact r_rng2 hg hm (sndE e h4 c tk).1 (sndE f h5 c tk).1 (star_of h2) (star_of h3)
    · cases h
  | .rng3 _ _ _, sc, X, W, tg, a, h, c, tk => by unfold chkI at h; cases h
  | .enum e, sc, X, W, tg, a, h, c, tk => by
    unfold chkI at h
    split at h
    · simp only [Bool.and_eq_true, decide_eq_true_eq] at h
      obtain ⟨⟨⟨rfl, h1⟩, h2⟩, h3⟩ := h
      obtain ⟨hg, hm⟩ := c.bl h1
      exact r_enum c.K hg hm (sndE e h3 c tk).1 (star_of h2)
    · cases h
  | .zip e f, sc, X, W, tg, a, h, c, tk => by
    unfold chkI at h
    split at h
    · simp only [Bool.and_eq_true, decide_eq_true_eq] at h
      obtain ⟨⟨⟨⟨⟨rfl, h1⟩, h2⟩, h3⟩, h4⟩, h5⟩ := h
      obtain ⟨hg, hm⟩ := c.bl h1
      exact r_zip c.K hg hm (sndE e h4 c tk).1 (sndE f h5 c tk).1 (star_of h2) (star_of h3)
    · cases h
  | .items _, sc, X, W, tg, a, h, c, tk => by unfold chkI at h; cases h
theorem sndT : ∀ (t : Tg) {fl : Bool} {sc : Scope} {X : Cx} {W : WX} {a : Expr}, chkT C sc fl t a = true → Ctx g G C sc X → Takes X W → (fl = true → ∀ x, X.fn x = true) → PG X a (tG g W (tgIx t) (tgt G t))
  | .nm i, fl, sc, X, W, a, h, c, tk, hf => by
    unfold chkT at h
    split at h
    · simp only [Bool.and_eq_true, decide_eq_true_eq] at h
      obtain ⟨h1, h2⟩ := c.loc hf h.2
      rw [tgIx]
      exact g_nm c.nd (by rw [c.N]; exact h.1) h1 h2
    · cases h
  | .tp ts, fl, sc, X, W, a, h, c, tk, hf => by
    unfold chkT at h
    split at h
    · simp only [Bool.and_eq_true] at h
      obtain ⟨h1, h2, h3⟩ := sndTs ts h.2 c tk hf h.1
      rw [tgIx]
      exact g_tp c.calm c.K h1 h2 h3
    · cases h
  | .sub o i, fl, sc, X, W, a, h, c, tk, hf => by
    unfold chkT at h
    split at h
    · simp only [Bool.and_eq_true] at h
      have e : tgIx (.sub o i) = [] := by unfold tgIx; rfl
      rw [e]
      exact g_sub c.K c.w c.un (sndE o h.1.2 c tk).1 (sndE i h.2 c tk).1 (sub_asg h.1.1)
    · cases h
  | .att _ _, fl, sc, X, W, a, h, c, tk, hf => by unfold chkT at h; cases h
theorem sndTs : ∀ (ts : List Tg) {fl : Bool} {sc : Scope} {X : Cx} {W : WX} {as : List Expr}, chkTs C sc fl ts as = true → Ctx g G C sc X → Takes X W → (fl = true → ∀ x, X.fn x = true) → nmsOnly ts = true → PGs X as (tGs g W (tgsIx ts) (tgts G ts)) ∧ (assignEach as X.env).length = ts.length ∧ (assignEach as X.env).findIdx? (·.1) = none
  | [], fl, sc, X, W, as, h, c, tk, hf, hn => by
    unfold chkTs at h
    split at h
    · exact ⟨gs_nil, rfl, rfl⟩
    · cases h
  | t :: ts, fl, sc, X, W, as, h, c, tk, hf, hn => by
    unfold chkTs at h
    split at h
    · simp only [Bool.and_eq_true] at h
      rw [nmsOnly, Bool.and_eq_true] at hn
      obtain ⟨h1, h2, h3⟩ := sndTs ts h.2 c tk hf hn.2
      rw [tgsIx, asgE_of h.1.1]
      refine ⟨gs_cons (sndT t h.1.2 c tk hf) h1 (by rw [asgE_of h.1.1]; rfl) hn.2, by rw [List.length_cons, List.length_cons, h2], ?_⟩
      rw [List.findIdx?_cons]
      simp [h3]
    · cases h
end
end
end Z
end

section
set_option Elab.async false
set_option linter.all false
set_option maxRecDepth 100000
set_option autoImplicit false
set_option maxHeartbeats 4000000
/-! S19: the checker of statements, defs, levels. -/
namespace Z
open PySem PySem.Spec PyProof.Rows L2

def compScope : Expr → Option Scope
  | .ListComp _ _ s _ => some s
  | .SetComp _ _ s _ => some s
  | .DictComp _ _ _ s _ => some s
  | _ => none
def isFun (sc : Scope) : Bool := (if sc.kind.isAnnotationScope then ScopeKind.function else sc.kind) == .function
/-- does the value change places with the name's own -/
def swB (sc : Scope) (v tg : Expr) : Bool := match compScope v with
  | none => false
  | some s => match tg with
    | .Name t pos => isFun sc && sc.names.lookup t == some .local && pos.line == v.pos.line && !(s.names.any fun (n, k) => n == t && (k == .local || k == .cell))
    | _ => false
theorem sw_eq {v tg : Expr} {line : Nat} {env : PySem.Env} : swapsWith v (some tg) line env = pure (swB env.scope v tg) := by
  cases v <;> first | rfl | (cases tg <;> rfl)
theorem sw_none {v : Expr} {line : Nat} {env : PySem.Env} (h : (compScope v).isNone = true) : swapsWith v none line env = pure false := by
  cases v <;> first | rfl | cases h
def notTup : Expr → Bool
  | .Tuple _ _ _ => false
  | .List _ _ => false
  | _ => true
theorem ss_none {v tg : Expr} {env : PySem.Env} (h : notTup tg = true ∨ notTup v = true) : swappedStores [tg] v env = pure none := by
  rcases h with h | h
  · cases tg <;> first | rfl | exact absurd h Bool.false_ne_true
  · cases v <;> first | (exact absurd h Bool.false_ne_true) | skip
    all_goals (cases tg <;> rfl)
theorem asg1 {tg : Expr} {env : PySem.Env} (h : notStar tg = true) : (assignEach [tg] env).map (·.2) = [assign tg env] := by
  rw [asgE_of h]; rfl
mutual
def chkS (C : Ck) (sc : Scope) : S → Stmt → Bool
  | .asg t e, s => match s with
    | .Assign [tg] v _ => if swB sc v tg then (match t, e, tg, v with
        | .nm i, .lc t i' c e own, .Name y _, .ListComp e' [⟨tg, iter, ifs, asy⟩] scope _ => decide (C.N[i]? = some y) && decide (sc.names.lookup y = some .local) && chkE C sc (.lc t i' c e own) v
        | _, _, _, _ => false) else (notTup tg || notTup v) && notStar tg && chkT C sc true t tg && chkE C sc e v
    | _ => false
  | .par i j a b, s => match s with
    | .Assign [.Tuple [.Name x px, .Name y py] _ _] (.Tuple [a', b'] _ _) _ => decide (C.N[i]? = some x) && decide (C.N[j]? = some y) && decide (i ≠ j) && decide (x ≠ y) && decide (sc.names.lookup x = some .local) && decide (sc.names.lookup y = some .local) && decide (px.line = py.line) && isFun sc && notStar a' && notStar b' &&
        !(foldedForSure 8 a' && foldedForSure 8 b') && !(constantsAlone 8 a' && constantsAlone 8 b') && chkE C sc a a' && chkE C sc b b'
    | _ => false
  | .expr e, s => match s with
    | .Expr v _ => (compScope v).isNone && chkE C sc e v
    | _ => false
  | .ret e, s => match s with
    | .Return (some v) _ => chkE C sc e v
    | _ => false
  | .retN, s => match s with
    | .Return none _ => true
    | _ => false
  | .ife c a b, s => match s with
    | .If c' a' b' _ => chkE C sc c c' && chkSs C sc a a' && chkSs C sc b b'
    | _ => false
  | .whl c b, s => match s with
    | .While c' b' [] _ => chkE C sc c c' && chkSs C sc b b'
    | _ => false
  | .for_ t i b, s => match s with
    | .For tg it b' [] _ => notSet it && chkI C sc i tg it && chkT C sc true t tg && chkSs C sc b b'
    | _ => false
  | .rse _ _, _ => false
  | .try_ _ _ _ _, _ => false
  | .pass, s => match s with
    | .Pass _ => true
    | .Expr (.Constant (.str _) _ _) _ => true
    | _ => false
  | .brk, s => match s with
    | .Break _ => true
    | _ => false
def chkSs (C : Ck) (sc : Scope) : List S → List Stmt → Bool
  | [], ss => ss.isEmpty
  | s :: ss, l => match l with
    | s' :: ss' => chkS C sc s s' && chkSs C sc ss ss'
    | [] => false
end
section
variable {g : Gm} {G : Env} {C : Ck}
/-- in a def's body -/
structure CtxS (g : Gm) (G : Env) (C : Ck) (sc : Scope) (X : Cx) : Prop extends Ctx g G C sc X where
  fn : ∀ x, X.fn x = true
  po : PassesOwn (model X.prog X.w) X.A X.env X.xe
theorem par_sw {X : Cx} {sc : Scope} {x y : Str} {px py pt : Pos} {kt k2 : Nat} {pt2 : Pos} {a b : Expr} (hs : X.env.scope = sc) (h1 : sc.names.lookup x = some .local) (h2 : sc.names.lookup y = some .local) (h3 : px.line = py.line) (h4 : isFun sc = true) (h5 : notStar a = true) (h6 : notStar b = true) (hxy : x ≠ y)
    (h7 : (foldedForSure 8 a && foldedForSure 8 b) = false) (h8 : (constantsAlone 8 a && constantsAlone 8 b) = false) :
    swappedStores [.Tuple [.Name x px, .Name y py] kt pt] (.Tuple [a, b] k2 pt2) X.env = pure (some [x, y]) := by
  unfold swappedStores
  have hb : X.env.blockKind = .function := by
    unfold PySem.Env.blockKind
    unfold isFun at h4
    rw [hs]
    exact beq_iff_eq.mp h4
  have k1 : X.env.kindOf x = some .local := by show X.env.scope.names.lookup x = _; rw [hs]; exact h1
  have k2' : X.env.kindOf y = some .local := by show X.env.scope.names.lookup y = _; rw [hs]; exact h2
  have s1 : ([a, b].any fun | .Starred .. => true | _ => false) = false := by
    cases a <;> cases b <;> first | rfl | exact absurd h5 Bool.false_ne_true | exact absurd h6 Bool.false_ne_true
  have e1 : ([x, y].eraseDups).length = 2 := by
    have : (y == x) = false := beq_eq_false_iff_ne.mpr (Ne.symm hxy)
    simp [List.eraseDups_cons, this]
  simp [hb, k1, k2', h3, s1, e1, h7, h8, List.all_cons, List.all_nil, Expr.pos]
  intro z
  rcases z with z | z
  · cases a <;> first | exact absurd h5 Bool.false_ne_true | cases z
  · cases b <;> first | exact absurd h6 Bool.false_ne_true | cases z
mutual
theorem sndS : ∀ (s : S) {sc : Scope} {X : Cx} {W : WX} {st : Stmt}, chkS C sc s st = true → CtxS g G C sc X → Takes X W → PS X st (tS g W (ex G s))
  | .asg t e, sc, X, W, st, h, c, tk => by
    unfold chkS at h
    split at h
    · rename_i tg v pos
      split at h
      · rename_i hsw
        split at h
        · rename_i i t' i' cc e' own y py el tg' iter ifs asy scope p2
          simp only [Bool.and_eq_true, decide_eq_true_eq] at h
          obtain ⟨⟨h1, h2⟩, h3⟩ := h
          have hh := h3
          unfold chkE at h3
          simp only [Bool.and_eq_true, decide_eq_true_eq] at h3
          obtain ⟨⟨⟨⟨⟨⟨⟨⟨rfl, k1⟩, k2⟩, k3⟩, k4⟩, k5⟩, k6⟩, k7⟩, k8⟩ := h3
          have c0 := c.toCtx
          have hi := sndI i' k2 c0 tk
          have ok : BlkOk X.N X.env.scope scope (own.map fun i => (C.N.getD i default, i)) := by rw [c.N, c.sc]; exact blkOk_by k3
          have r := s_setLc (g := g) (G := G) (W := W) (i := i) (y := y) (py := py) (is := tgIx t') (t := t') (it := i') (c := cc) (e := e') (elt := el) (tg := tg') (iter := iter) (ifs := ifs) (p2 := p2) (spos := pos) c.calm c.nd (by rw [c.N]; exact h1) (by rw [c.sc]; exact h2)
            (by rw [sw_eq, c.sc, hsw]) hi ok (by rw [own_snd]; exact fun i hi => of_decide_eq_true (List.all_eq_true.mp k4 i hi))
            (fun s H Ca cl fp => sndT t' k5 (c0.blk scope s H Ca cl fp) tk0 (fun z => nomatch z)) (fun s H Ca cl fp => sndC cc k8 (c0.blk scope s H Ca cl fp) tk0) (fun s H Ca cl fp => (sndE e' k7 (c0.blk scope s H Ca cl fp) tk0).1) (fold_of k1)
          rw [own_snd] at r
          exact r
        · cases h
      · rename_i hsw
        simp only [Bool.and_eq_true, Bool.or_eq_true] at h
        obtain ⟨⟨⟨h1, h2⟩, h3⟩, h4⟩ := h
        refine s_asg (sndE e h4 c.toCtx tk).1 (sndT t h3 c.toCtx tk (fun _ => c.fn)) ?_ (ss_none h1) (asg1 h2)
        show swapsWith v (some tg) pos.line X.env = pure false
        rw [sw_eq, c.sc]
        rw [Bool.not_eq_true] at hsw
        rw [hsw]
    · cases h
  | .par i j a b, sc, X, W, st, h, c, tk => by
    unfold chkS at h
    split at h
    · simp only [Bool.and_eq_true, Bool.not_eq_true', decide_eq_true_eq] at h
      obtain ⟨⟨⟨⟨⟨⟨⟨⟨⟨⟨⟨⟨⟨h1, h2⟩, h3⟩, h4⟩, h5⟩, h6⟩, h7⟩, h8⟩, h9⟩, h10⟩, h11⟩, h12⟩, h13⟩, h14⟩ := h
      have c0 := c.toCtx
      exact s_par c.calm c.nd (by rw [c.N]; exact h1) (by rw [c.N]; exact h2) h3 (by rw [c.sc]; exact h5) (by rw [c.sc]; exact h6) (r_cons (sndE a h13 c0 tk).1 (r_cons (sndE b h14 c0 tk).1 r_nil (star_of h10)) (star_of h9)) (par_sw c.sc h5 h6 h7 h8 h9 h10 h4 h11 h12) rfl
    · cases h
  | .expr e, sc, X, W, st, h, c, tk => by
    unfold chkS at h
    split at h
    · simp only [Bool.and_eq_true] at h
      exact s_expr (sndE e h.2 c.toCtx tk).1 (sw_none h.1)
    · cases h
  | .ret e, sc, X, W, st, h, c, tk => by
    unfold chkS at h
    split at h
    · exact s_ret (sndE e h c.toCtx tk).1
    · cases h
  | .retN, sc, X, W, st, h, c, tk => by
    unfold chkS at h
    split at h
    · exact s_retN
    · cases h
  | .ife e a b, sc, X, W, st, h, c, tk => by
    unfold chkS at h
    split at h
    · simp only [Bool.and_eq_true] at h
      exact s_ife (sndE e h.1.1 c.toCtx tk).2 (sndSs a h.1.2 c tk) (sndSs b h.2 c tk)
    · cases h
  | .whl e b, sc, X, W, st, h, c, tk => by
    unfold chkS at h
    split at h
    · simp only [Bool.and_eq_true] at h
      exact s_whl c.po (sndE e h.1 c.toCtx tk).2 (sndSs b h.2 c tk)
    · cases h
  | .for_ t i b, sc, X, W, st, h, c, tk => by
    unfold chkS at h
    split at h
    · simp only [Bool.and_eq_true] at h
      exact s_for c.po c.calm (sndI i h.1.1.2 c.toCtx tk) (sndT t h.1.2 c.toCtx tk (fun _ => c.fn)) (sndSs b h.2 c tk) (fold_of h.1.1.1)
    · cases h
  | .rse _ _, sc, X, W, st, h, c, tk => by unfold chkS at h; cases h
  | .try_ _ _ _ _, sc, X, W, st, h, c, tk => by unfold chkS at h; cases h
  | .pass, sc, X, W, st, h, c, tk => by
    unfold chkS at h
    split at h
    · exact s_pass
    · exact s_doc
    · cases h
  | .brk, sc, X, W, st, h, c, tk => by
    unfold chkS at h
    split at h
    · exact s_brk
    · cases h
theorem sndSs : ∀ (ss : List S) {sc : Scope} {X : Cx} {W : WX} {l : List Stmt}, chkSs C sc ss l = true → CtxS g G C sc X → Takes X W → PSs X l (tS g W (exs G ss))
  | [], sc, X, W, l, h, c, tk => by
    unfold chkSs at h
    cases l with
    | nil => exact s_nil
    | cons _ _ => cases h
  | s :: ss, sc, X, W, l, h, c, tk => by
    unfold chkSs at h
    split at h
    · simp only [Bool.and_eq_true] at h
      exact s_cons (sndS s h.1 c tk) (sndSs ss h.2 c tk)
    · cases h
end
end
/-! ### defs, levels -/
/-- a def of the text -/
structure DefI where
  name : Str
  N : List Str
  n : Nat
  body : List S
  st : Stmt
def runD (G : Env) (d : DefI) (ps : List PV) (h : PH) : Res PV := match exs G d.body (ps.map some ++ List.replicate (d.N.length - ps.length) none) h with
  | .go .nx _ h => .ok .non h
  | .go (.ret v) _ h => .ok v h
  | .go .brk _ _ => .bad
  | .exc c _ h => .exc c h
  | .bad => .bad
def lvl (T : List DefI) (sub : Nat → Nat → Bool) : Nat → Env
  | 0 => ⟨fun _ _ _ => .bad, fun _ _ => none, fun _ => none, sub⟩
  | k + 1 => ⟨fun f ps h => match T[f]? with
    | some d => if ps.length = d.n then runD (lvl T sub k) d ps h else .bad
    | none => .bad, fun _ _ => none, fun _ => none, sub⟩
def fnsFrom : Nat → List DefI → List (Str × Nat × Nat)
  | _, [] => []
  | i, d :: r => (d.name, i, d.n) :: fnsFrom (i + 1) r
theorem fns_mem : ∀ {T : List DefI} {i : Nat} {p : Str × Nat × Nat}, p ∈ fnsFrom i T → ∃ j d, p.2.1 = i + j ∧ T[j]? = some d ∧ d.name = p.1 ∧ d.n = p.2.2
  | [], i, p, h => by cases h
  | d :: r, i, p, h => by
    rcases List.mem_cons.mp h with rfl | h
    · exact ⟨0, d, rfl, rfl, rfl, rfl⟩
    · obtain ⟨j, d', h1, h2, h3, h4⟩ := fns_mem h
      exact ⟨j + 1, d', by omega, by simpa using h2, h3, h4⟩
def scB (N : List Str) (n : Nat) (sc : Scope) : Bool := decide (sc.kind = .function) && !sc.isCoroutine && !sc.isGenerator && decide N.Nodup && decide (n ≤ N.length) && ((N.take n).all fun x => match sc.names.lookup x with
    | some .local => true
    | some .cell => true
    | _ => false) && sc.names.all fun y => decide (y.2 ≠ .free)
theorem sc_of {N : List Str} {n : Nat} {sc : Scope} (h : scB N n sc = true) : FnScope N (N.take n) sc := by
  unfold scB at h
  simp only [Bool.and_eq_true, decide_eq_true_eq, Bool.not_eq_true', List.all_eq_true] at h
  obtain ⟨⟨⟨⟨⟨⟨h1, h2⟩, h3⟩, h4⟩, h5⟩, h6⟩, h7⟩ := h
  refine ⟨h1, h2, h3, h4, by rw [List.length_take, Nat.min_eq_left h5], fun x hx => ?_, h7⟩
  have := h6 x hx
  split at this
  · exact .inl (by assumption)
  · exact .inr (by assumption)
  · cases this
def chkDef (T : List DefI) (blt : List Str) (d : DefI) : Bool := scB d.N d.n (defScope d.st) && decide (d.n ≤ d.N.length) && chkSs ⟨d.N, fnsFrom 0 T, blt⟩ (defScope d.st) d.body (defBody d.st)
abbrev FnP (K : PySem.W.Frag) (d : DefI) (f : Addr) (fd : FuncData) : Prop := FunD K d.name d.name (defArgs d.st) (defBody d.st) (defScope d.st) [] [] f fd
/-- what the head tells of the defs -/
structure Txt (T : List DefI) (blt : List Str) (K : PySem.W.Frag) (mg : Str → Option Value) : Prop where
  defs : ∀ (i : Nat) (d : DefI), T[i]? = some d → ∃ f fd, FnP K d f fd ∧ mg d.name = some (.ref f) ∧ Binds K fd (d.N.take d.n) []
  blt : ∀ x, x ∈ blt → mg x = none
section
variable {T : List DefI} {blt : List Str} {P : Program} {w : World} {K : PySem.W.Frag} {mg : Str → Option Value} {base : Heap} {cl : Nat → Option Addr} {px : List (Addr × Nat)} {sub : Nat → Nat → Bool}
theorem p_app {α β : Type} {F : α → β → Prop} : ∀ {a : List α} {b : List β} {c : List α} {d : List β}, Paired F a b → Paired F c d → Paired F (a ++ c) (b ++ d)
  | _, _, _, _, .nil, h => h
  | _, _, _, _, .cons x t, h => .cons x (p_app t h)
theorem sl_start {g : Gm} {ms : List Addr} {H : Hp} {N : List Str} : ∀ {ps : List PV} {vs : List V}, g.Rps H ms ps vs → g.SlR H ms (ps.map some ++ List.replicate (N.length - ps.length) none) (L2.start N vs) := by
  intro ps vs r
  unfold L2.start
  rw [← r.length]
  have h1 : g.SlR H ms (ps.map some) (vs.map some) := by
    induction r using Z.Rps.rec (motive_1 := fun _ _ _ => True) with
    | nil => exact .nil
    | cons r t _ ih => exact .cons r ih
    | _ => trivial
  have h2 : ∀ n : Nat, g.SlR H ms (List.replicate n none) (List.replicate n none) := by
    intro n
    induction n with
    | zero => exact .nil
    | succ n ih => rw [List.replicate_succ, List.replicate_succ]; exact .cons trivial ih
  exact p_app h1 (h2 _)
theorem defs_ok (hT : Txt T blt K mg) (hc : ∀ d ∈ T, chkDef T blt d = true) : ∀ (j i : Nat) (d : DefI) (f : Addr) (fd : FuncData), T[i]? = some d → FnP K d f fd →
    FnOk P w K mg base (L2.CX P w) j f fd (d.N.take d.n) (spZ ⟨w, cl, K, px⟩ (lvl T sub j) i d.n) := by
  intro j
  induction j with
  | zero =>
    intro i d f fd hd F
    refine ⟨fun vs H Q E h => ?_, fun A outer s H args us vs Q E _ _ _ _ h => ?_⟩
    · obtain ⟨_, _, _, _, _, _, _, P⟩ := h; exact False.elim P
    · obtain ⟨_, _, _, _, _, _, _, P⟩ := h; exact False.elim P
  | succ j ih =>
    intro i d f fd hd F
    have hcd := hc d (List.mem_of_getElem? hd)
    unfold chkDef at hcd
    simp only [Bool.and_eq_true, decide_eq_true_eq] at hcd
    obtain ⟨⟨hs, hn⟩, hb⟩ := hcd
    refine F.ok (sc_of hs) (fun vs H Q E h => ?_) (fun cdv A outer s H vs Q E hr h => ⟨tS ⟨w, cl, K, px⟩ (fun cls d _ H => E cls d H) (exs (lvl T sub j) d.body), ?_, ?_⟩)
    · obtain ⟨_, _, _, ps, _, r, hl, _⟩ := h
      rw [← r.length, hl, List.length_take, Nat.min_eq_left hn]
    · refine sndSs d.body hb ?_ (takes_of rfl rfl rfl rfl)
      refine ⟨⟨rfl, rfl, rfl, rfl, (sc_of hs).nd, rfl, by have := hr.un; show (A.deeper _).units + 70 < _; omega, hT.blt, fun p hp => ?_⟩, fun _ => rfl, passes_of rfl⟩
      obtain ⟨i', d', e1, e2, e3, e4⟩ := fns_mem hp
      obtain ⟨f', fd', F', m', b'⟩ := hT.defs i' d' e2
      refine ⟨j, f', fd', d'.N.take d'.n, ?_, hr, by rw [← e3]; exact m', F'.kp, b'⟩
      have := ih i' d' f' fd' e2 F'
      rw [← e4, e1, Nat.zero_add]
      exact this
    · obtain ⟨lk, ms, h, ps, hR, r, hl, P⟩ := h
      refine ⟨lk, ms, _, h, hR, sl_start r, ?_⟩
      have ec : (lvl T sub (j + 1)).call i ps h = runD (lvl T sub j) d ps h := by
        show (match T[i]? with
          | some d => if ps.length = d.n then runD (lvl T sub j) d ps h else .bad
          | none => .bad) = _
        rw [hd]
        exact if_pos hl
      rw [ec] at P
      unfold runD at P
      cases hx : exs (lvl T sub j) d.body (ps.map some ++ List.replicate (d.N.length - ps.length) none) h with
      | go fl σ' h' => cases fl with
        | nx => rw [hx] at P; exact fun ms' H' σ' k hR' sl => P ms' H' .non k hR' .non
        | brk => rw [hx] at P; exact False.elim P
        | ret v => rw [hx] at P; exact fun ms' H' u k hR' ru => P ms' H' u k hR' ru
      | exc c σ' h' => rw [hx] at P; exact fun ms' H' σ' C k hR' sl hc => P ms' H' C k hR' hc
      | bad => rw [hx] at P; exact P
end
end Z
end

section
set_option Elab.async false
set_option linter.all false
set_option maxRecDepth 100000
set_option autoImplicit false
set_option maxHeartbeats 4000000
/-! S20: the end of a law. -/
namespace Z
open PySem PySem.Spec PyProof.Rows L2

/-- an exception of any program, any world -/
def CXa : CXT := fun outer H s E e s' => ∃ P w, L2.CX P w outer H s E e s'
theorem CXa_no (H : Hp) (s : Shared) (e : Value) (s' : Shared) (h : CXa [] H s (fun _ _ _ => False) e s') : False := by
  obtain ⟨P, w, _, _, _, _, _, _, _, _, _, _, _, _, z⟩ := h
  exact z
theorem fn_any {P : Program} {w : World} {K : PySem.W.Frag} {mg : Str → Option Value} {base : Heap} {k : Nat} {f : Addr} {fd : FuncData} {ps : List Str} {sp : Sp} (F : FnOk P w K mg base (L2.CX P w) k f fd ps sp) : FnOk P w K mg base CXa k f fd ps sp :=
  ⟨F.len, fun A outer s H args us vs Q E hr e0 hb r hsp => codeAny_mono (F.run A outer s H args us vs Q E hr e0 hb r hsp) fun r s' q => by
    cases r with
    | error e => exact ⟨P, w, q⟩
    | ok fl => cases fl <;> exact q⟩
theorem hr_nil {w : World} {cl : Nat → Option Addr} {K : PySem.W.Frag} {px : List (Addr × Nat)} {H : Hp} : Z.HR w cl K px (fun _ => none) [] [] H :=
  ⟨rfl, List.nodup_nil, fun l o e => by simp at e, fun a o e => by cases e⟩
theorem ints_rps {K : PySem.W.Frag} {px : List (Addr × Nat)} {H : Hp} {ms : List Addr} : ∀ ns : List Int, Z.Rps K px H ms (ns.map PV.int) (ns.map V.int)
  | [] => .nil
  | _ :: r => .cons .int (ints_rps r)
theorem law_end {T : List DefI} {blt : List Str} {K : PySem.W.Frag} {h : Heap} {mg : Str → Option Value} {P : Program} {w : World} {x : Str} {i j : Nat} {d : DefI} {fa : Addr} {sub : Nat → Nat → Bool} (t : Txt T blt K mg) (hc : ∀ d ∈ T, chkDef T blt d = true) (hd : T[i]? = some d) (hn : d.n = 1) (hN : d.N.take 1 = [x]) (hl : d.name = "law")
    (hb : ∀ f fd, FnP K d f fd → ∀ (s : Shared) (u : Value), BindsTo s fd ⟨[u], []⟩ [(x, u)]) (KX : K.In h) (hmg : mg ("law" : Str) = some (.ref fa))
    (H : ∀ ns : List Int, ns.length ≤ 63 → ∃ h', (lvl T sub j).call i [.ro (ns.map PV.int)] [] = .ok (.bl true) h') :
    ∃ (K : PySem.W.Frag) (fd : FuncData) (sp : Sp), K.In h ∧ (∀ (s : Shared) (u : Value), BindsTo s fd ⟨[u], []⟩ [(x, u)]) ∧
      (∀ (H : Hp) (a : Addr) (ns : List Int), ns.length ≤ 63 → Only H → SqL K H a (ns.map V.int) → sp [.ref a] H (fun v _ => v = .bl true) fun _ _ _ => False) ∧
      ∀ base : Heap, K.In base → base.Ns mainGlobals mg → FnOk P w K mg base CXa j fa fd [x] sp := by
  obtain ⟨f, fd, F, m, b⟩ := t.defs i d hd
  rw [hl, hmg] at m
  cases m
  refine ⟨K, fd, spZ ⟨w, fun _ => none, K, []⟩ (lvl T sub j) i d.n, KX, hb _ fd F, fun Hp a ns hz hO hS => ?_, fun base _ _ => ?_⟩
  · obtain ⟨h', e⟩ := H ns hz
    refine ⟨fun _ => none, [], [], [.ro (ns.map PV.int)], hr_nil, .cons (.ro ?_ (ints_rps ns)) .nil, hn.symm, ?_⟩
    · rcases hS with hS | hS
      · rcases hS with hS | ⟨o, hS⟩
        · rcases hO a with z | ⟨o, xs, z⟩
          · rw [z] at hS; cases hS
          · rw [z] at hS; cases hS
        · exact .inl ⟨⟨o, hS⟩, fun z => nomatch z⟩
      · exact .inr fun H' => .inr hS
    · rw [e]
      intro ms' H' u _ _ ru
      exact Rp.bl_of ru
  · have := defs_ok (P := P) (w := w) (base := base) (cl := fun _ => none) (px := []) (sub := sub) t hc j i d _ fd hd F
    have q := fn_any this
    rw [hn, hN] at q
    rw [hn]
    exact q
end Z
end

section
set_option Elab.async false
set_option linter.all false
set_option maxRecDepth 100000
set_option autoImplicit false
/-! C1: reckoning with the evaluator. -/
namespace Z
open PySem L2

/-- it ends well, and so -/
def Ok {α : Type} (r : Res α) (Q : α → PH → Prop) : Prop := match r with
  | .ok a h => Q a h
  | _ => False
def Go (r : SRes) (N B : Sto → PH → Prop) (R : PV → PH → Prop) : Prop := match r with
  | .go .nx σ h => N σ h
  | .go .brk σ h => B σ h
  | .go (.ret v) _ h => R v h
  | _ => False
section
variable {α β : Type} {Q Q' : α → PH → Prop} {G : Env} {σ : Sto} {h : PH} {N B N' B' : Sto → PH → Prop} {R R' : PV → PH → Prop}
theorem Ok.imp {r : Res α} (h : Ok r Q) (i : ∀ a h, Q a h → Q' a h) : Ok r Q' := by
  cases r <;> first | exact i _ _ h | exact h
theorem Ok.eq {r : Res α} (h : Ok r Q) : ∃ a h', r = .ok a h' ∧ Q a h' := by
  cases r with
  | ok a h' => exact ⟨a, h', rfl, h⟩
  | _ => exact h.elim
theorem Go.imp {r : SRes} (h : Go r N B R) (i : ∀ σ h, N σ h → N' σ h) (j : ∀ σ h, B σ h → B' σ h) (k : ∀ v h, R v h → R' v h) : Go r N' B' R' := by
  cases r with
  | go f σ h' => cases f <;> first | exact i _ _ h | exact j _ _ h | exact k _ _ h
  | _ => exact h.elim
theorem ok_ok {a : α} : Ok (.ok a h) Q = Q a h := rfl
theorem ok_bad : Ok (.bad) Q = False := rfl
theorem ok_bind {r : Res β} {f : β → PH → Res α} : Ok (r.bind f) Q = Ok r fun a h => Ok (f a h) Q := by cases r <;> rfl
theorem ok_ofO {Q : PV → PH → Prop} {o : Option (PV × PH)} : Ok (ofO o) Q = ∃ p, o = some p ∧ Q p.1 p.2 := by
  cases o with
  | none => simp [ofO, Ok]
  | some p => simp [ofO, Ok]
theorem ok_ofU {Q : Unit → PH → Prop} {o : Option PH} : Ok (ofU o) Q = ∃ h, o = some h ∧ Q () h := by
  cases o with
  | none => simp [ofU, Ok]
  | some p => simp [ofU, Ok]
theorem ok_someR {o : Option α} : Ok (someR o h) Q = ∃ a, o = some a ∧ Q a h := by
  cases o with
  | none => simp [someR, Ok]
  | some p => simp [someR, Ok]
/-! ### expressions -/
variable {Q : PV → PH → Prop}
theorem k_var {i : Nat} : Ok (ev G (.var i) σ h) Q = ∃ v, σ[i]? = some (some v) ∧ Q v h := by
  simp only [ev]
  split
  · rename_i v e; simp [Ok, e]
  · rename_i n
    simp only [Ok, false_iff, eq_iff_iff]
    rintro ⟨v, e, _⟩
    exact n v e
theorem k_non : Ok (ev G .non σ h) Q = Q .non h := by simp only [ev]; rfl
theorem k_bl {b : Bool} : Ok (ev G (.bl b) σ h) Q = Q (.bl b) h := by simp only [ev]; rfl
theorem k_int {b : Int} : Ok (ev G (.int b) σ h) Q = Q (.int b) h := by simp only [ev]; rfl
theorem k_str {b : Str} : Ok (ev G (.str b) σ h) Q = Q (.str b) h := by simp only [ev]; rfl
theorem k_op {o : Op} {a b : E} : Ok (ev G (.op o a b) σ h) Q = Ok (ev G a σ h) fun x h => Ok (ev G b σ h) fun y h => ∃ p, opV o x y h = some p ∧ Q p.1 p.2 := by
  simp only [ev, ok_bind, ok_ofO]
theorem k_neg {a : E} : Ok (ev G (.neg a) σ h) Q = Ok (ev G a σ h) fun x h => Ok (negR x h) Q := by simp only [ev, ok_bind]
theorem k_not {a : E} : Ok (ev G (.not a) σ h) Q = Ok (ev G a σ h) fun x h => ∃ b, truth x h = some b ∧ Q (.bl (!b)) h := by simp only [ev, ok_bind, ok_someR, ok_ok]
theorem k_and {es : List E} : Ok (ev G (.and es) σ h) Q = Ok (evAnd G es σ h) Q := by simp only [ev]
theorem k_or {es : List E} : Ok (ev G (.or es) σ h) Q = Ok (evOr G es σ h) Q := by simp only [ev]
theorem ok_ite {b : Bool} {x y : Res α} {Q : α → PH → Prop} : Ok (if b then x else y) Q = if b then Ok x Q else Ok y Q := by cases b <;> rfl
theorem k_and1 {e : E} : Ok (evAnd G [e] σ h) Q = Ok (ev G e σ h) Q := by simp only [evAnd]
theorem k_and2 {e e' : E} {es : List E} : Ok (evAnd G (e :: e' :: es) σ h) Q = Ok (ev G e σ h) fun v h => ∃ b, truth v h = some b ∧ if b then Ok (evAnd G (e' :: es) σ h) Q else Q v h := by
  simp only [evAnd, ok_bind, ok_someR, ok_ite, ok_ok]
theorem k_or1 {e : E} : Ok (evOr G [e] σ h) Q = Ok (ev G e σ h) Q := by simp only [evOr]
theorem k_or2 {e e' : E} {es : List E} : Ok (evOr G (e :: e' :: es) σ h) Q = Ok (ev G e σ h) fun v h => ∃ b, truth v h = some b ∧ if b then Q v h else Ok (evOr G (e' :: es) σ h) Q := by
  simp only [evOr, ok_bind, ok_someR, ok_ite, ok_ok]
theorem k_cmp {c : Cm} {a b : E} : Ok (ev G (.cmp c a b) σ h) Q = Ok (ev G a σ h) fun x h => Ok (ev G b σ h) fun y h => ∃ k, cmpO c x y h = some k ∧ Q (.bl k) h := by
  simp only [ev, ok_bind, ok_someR, ok_ok]
theorem k_idx {a b : E} : Ok (ev G (.idx a b) σ h) Q = Ok (ev G a σ h) fun x h => Ok (ev G b σ h) fun y h => ∃ p, idxV x y h = some p ∧ Q p.1 p.2 := by
  simp only [ev, ok_bind, ok_ofO]
theorem k_slc {a : E} {lo hi : Option E} : Ok (ev G (.slc a lo hi) σ h) Q = Ok (ev G a σ h) fun x h => Ok (evI G lo σ h) fun i h => Ok (evI G hi σ h) fun j h => ∃ p, slcV x i j h = some p ∧ Q p.1 p.2 := by
  simp only [ev, ok_bind, ok_ofO]
theorem k_iN {Q : Option Int → PH → Prop} : Ok (evI G none σ h) Q = Q none h := by simp only [evI]; rfl
theorem k_iS {Q : Option Int → PH → Prop} {e : E} : Ok (evI G (some e) σ h) Q = Ok (ev G e σ h) fun v h => Ok (intR v h) Q := by simp only [evI, ok_bind]
theorem k_tup {es : List E} : Ok (ev G (.tup es) σ h) Q = Ok (evs G es σ h) fun vs h => vs.length ≤ sizeLine ∧ Q (.tup vs) h := by
  simp only [ev, ok_bind]
  congr 1
  funext vs h
  split
  · rename_i z; simp [Ok, z]
  · rename_i z; simp [Ok, z]
theorem k_lst {es : List E} : Ok (ev G (.lst es) σ h) Q = Ok (evs G es σ h) fun vs h => vs.length ≤ sizeLine ∧ Q (.ref h.length) (h ++ [.lst vs]) := by
  simp only [ev, ok_bind]
  congr 1
  funext vs h
  split
  · rename_i z; simp [Ok, z]
  · rename_i z; simp [Ok, z]
theorem k_dic {es : List E} : Ok (ev G (.dic es) σ h) Q = Ok (evs G es σ h) fun vs h => ∃ p, dicV (evens vs) (odds vs) h = some p ∧ Q p.1 p.2 := by simp only [ev, ok_bind, ok_ofO]
theorem k_call {f : Nat} {es : List E} : Ok (ev G (.call f es) σ h) Q = Ok (evs G es σ h) fun vs h => Ok (G.call f vs h) Q := by simp only [ev, ok_bind]
theorem k_bi {b : BI} {es : List E} : Ok (ev G (.bi b es) σ h) Q = Ok (evs G es σ h) fun vs h => ∃ p, biV b vs h = some p ∧ Q p.1 p.2 := by simp only [ev, ok_bind, ok_ofO]
theorem k_bm {m : BM} {o : E} {es : List E} : Ok (ev G (.bm m o es) σ h) Q = Ok (ev G o σ h) fun x h => tyV (bmT m) x h = true ∧ Ok (evs G es σ h) fun vs h => ∃ p, bmV m x vs h = some p ∧ Q p.1 p.2 := by
  simp only [ev, ok_bind]
  congr 1
  funext x h
  by_cases z : tyV (bmT m) x h = true
  · rw [if_pos z]; simp only [ok_bind, ok_ofO, z, true_and]
  · rw [if_neg z]; simp [Ok, z]
theorem k_isi {a : E} {t : Ty} : Ok (ev G (.isi a t) σ h) Q = Ok (ev G a σ h) fun x h => ∃ b, isiV G.sub x t h = some b ∧ Q (.bl b) h := by simp only [ev, ok_bind, ok_someR, ok_ok]
theorem k_nil {Q : List PV → PH → Prop} : Ok (evs G [] σ h) Q = Q [] h := by simp only [evs]; rfl
theorem k_cons {Q : List PV → PH → Prop} {e : E} {es : List E} : Ok (evs G (e :: es) σ h) Q = Ok (ev G e σ h) fun v h => Ok (evs G es σ h) fun vs h => Q (v :: vs) h := by simp only [evs, ok_bind, ok_ok]
theorem k_T {Q : Bool → PH → Prop} {e : E} : Ok (evT G e σ h) Q = Ok (ev G e σ h) fun v h => ∃ b, truth v h = some b ∧ Q b h := by simp only [evT, ok_bind, ok_someR]
theorem k_cN {Q : Bool → PH → Prop} : Ok (evC G none σ h) Q = Q true h := by simp only [evC]; rfl
theorem k_cS {Q : Bool → PH → Prop} {e : E} : Ok (evC G (some e) σ h) Q = Ok (evT G e σ h) Q := by simp only [evC, evT]
theorem k_lc {t : Tg} {i : It'} {c : Option E} {e : E} {own : List Nat} : Ok (ev G (.lc t i c e own) σ h) Q = Ok (evSrc G i σ h) fun s h => Ok (loopC s (lcT G t c e own σ) s.all [] (s.lock h)) fun vs h => Q (.ref h.length) (h ++ [.lst vs]) := by
  simp only [ev, ok_bind, ok_ok]; rfl
/-! ### what is walked -/
theorem k_val {Q : Src → PH → Prop} {e : E} : Ok (evSrc G (.val e) σ h) Q = Ok (ev G e σ h) fun v h => ∃ s, srcOf v h = some s ∧ Q s h := by simp only [evSrc, ok_bind, ok_someR]
theorem k_rng1 {Q : Src → PH → Prop} {e : E} : Ok (evSrc G (.rng1 e) σ h) Q = Ok (ev G e σ h) fun v h => Ok (rng1R v h) Q := by simp only [evSrc, ok_bind]
theorem k_rng2 {Q : Src → PH → Prop} {a b : E} : Ok (evSrc G (.rng2 a b) σ h) Q = Ok (ev G a σ h) fun v h => Ok (ev G b σ h) fun u h => Ok (rng2R v u h) Q := by simp only [evSrc, ok_bind]
theorem k_enum {Q : Src → PH → Prop} {e : E} : Ok (evSrc G (.enum e) σ h) Q = Ok (ev G e σ h) fun v h => Ok (enumR v h) Q := by simp only [evSrc, ok_bind]
theorem k_zip {Q : Src → PH → Prop} {a b : E} : Ok (evSrc G (.zip a b) σ h) Q = Ok (ev G a σ h) fun v h => Ok (ev G b σ h) fun u h => Ok (zipR v u h) Q := by simp only [evSrc, ok_bind]
/-! ### targets -/
theorem k_nm {Q : Sto → PH → Prop} {i : Nat} {v : PV} : Ok (tgt G (.nm i) v σ h) Q = Q (σ.set i (some v)) h := by simp only [tgt]; rfl
theorem k_tpT {Q : Sto → PH → Prop} {ts : List Tg} {xs : List PV} : Ok (tgt G (.tp ts) (.tup xs) σ h) Q = (xs.length = ts.length ∧ Ok (tgts G ts xs σ h) Q) := by
  simp only [tgt]
  split
  · rename_i z; simp [z]
  · rename_i z; simp [Ok, z]
theorem k_tpL {Q : Sto → PH → Prop} {ts : List Tg} {l : Nat} : Ok (tgt G (.tp ts) (.ref l) σ h) Q = ∃ xs, h[l]? = some (.lst xs) ∧ xs.length = ts.length ∧ Ok (tgts G ts xs σ h) Q := by
  simp only [tgt]
  split
  · rename_i xs e
    split
    · rename_i z
      simp only [e, Option.some.injEq, PO.lst.injEq, eq_iff_iff]
      exact ⟨fun q => ⟨xs, rfl, z, q⟩, fun ⟨ys, e, _, q⟩ => e ▸ q⟩
    · rename_i z
      simp only [e, Option.some.injEq, PO.lst.injEq, Ok, eq_iff_iff, false_iff]
      rintro ⟨ys, rfl, q, _⟩
      exact z q
  · rename_i n
    simp only [Ok, eq_iff_iff, false_iff]
    rintro ⟨xs, e, _⟩
    exact n xs e
theorem k_tsN {Q : Sto → PH → Prop} : Ok (tgts G [] [] σ h) Q = Q σ h := by simp only [tgts]; rfl
theorem k_tsC {Q : Sto → PH → Prop} {t : Tg} {ts : List Tg} {x : PV} {xs : List PV} : Ok (tgts G (t :: ts) (x :: xs) σ h) Q = Ok (tgt G t x σ h) fun σ h => Ok (tgts G ts xs σ h) Q := by simp only [tgts, ok_bind]
theorem k_sub {Q : Sto → PH → Prop} {a i : E} {v : PV} : Ok (tgt G (.sub a i) v σ h) Q = Ok (ev G a σ h) fun x h => Ok (ev G i σ h) fun y h => ∃ h', setV x y v h = some h' ∧ Q σ h' := by simp only [tgt, ok_bind, ok_ofU, ok_ok]
/-! ### statements -/
theorem g_nil : Go (exs G [] σ h) N B R = N σ h := by simp only [exs]; rfl
theorem g_cons {s : S} {ss : List S} : Go (exs G (s :: ss) σ h) N B R = Go (ex G s σ h) (fun σ h => Go (exs G ss σ h) N B R) B R := by
  simp only [exs]
  cases ex G s σ h with
  | go f σ' h' => cases f <;> rfl
  | exc _ _ _ => rfl
  | bad => rfl
theorem go_ofRes {r : Res Sto} : Go (ofRes σ r) N B R = Ok r N := by cases r <;> rfl
theorem g_asg {t : Tg} {e : E} : Go (ex G (.asg t e) σ h) N B R = Ok (ev G e σ h) fun v h => Ok (tgt G t v σ h) N := by
  simp only [ex]
  cases ev G e σ h with
  | ok v h' => exact go_ofRes
  | exc _ _ => rfl
  | bad => rfl
theorem g_expr {e : E} : Go (ex G (.expr e) σ h) N B R = Ok (ev G e σ h) fun _ h => N σ h := by
  simp only [ex]
  cases ev G e σ h <;> rfl
theorem g_ret {e : E} : Go (ex G (.ret e) σ h) N B R = Ok (ev G e σ h) R := by
  simp only [ex]
  cases ev G e σ h <;> rfl
theorem g_retN : Go (ex G .retN σ h) N B R = R .non h := by simp only [ex]; rfl
theorem g_pass : Go (ex G .pass σ h) N B R = N σ h := by simp only [ex]; rfl
theorem g_brk : Go (ex G .brk σ h) N B R = B σ h := by simp only [ex]; rfl
theorem g_ife {c : E} {a b : List S} : Go (ex G (.ife c a b) σ h) N B R = Ok (evT G c σ h) fun k h => if k then Go (exs G a σ h) N B R else Go (exs G b σ h) N B R := by
  simp only [ex]
  cases evT G c σ h with
  | ok k h' => cases k <;> rfl
  | exc _ _ => rfl
  | bad => rfl
theorem g_for {t : Tg} {i : It'} {b : List S} : Go (ex G (.for_ t i b) σ h) N B R = Ok (evSrc G i σ h) fun s h => Go (loopL s (forB G t b) s.all σ (s.lock h)) N B R := by
  simp only [ex]
  cases evSrc G i σ h <;> rfl
theorem g_forB {t : Tg} {b : List S} {x : PV} : Go (forB G t b x σ h) N B R = Ok (tgt G t x σ h) fun σ h => Go (exs G b σ h) N B R := by
  unfold forB
  cases tgt G t x σ h <;> rfl
theorem k_lcT {Q : Option PV → PH → Prop} {t : Tg} {c : Option E} {e : E} {own : List Nat} {x : PV} : Ok (lcT G t c e own σ x h) Q = Ok (tgt G t x (wipeP σ own) h) fun σ2 h => Ok (evC G c σ2 h) fun b h => if b then Ok (ev G e σ2 h) fun v h => Q (some v) h else Q none h := by
  unfold lcT
  simp only [ok_bind, ok_ite, ok_ok]
/-- a loop: I by the turn -/
theorem loopL_inv {s : Src} {body : PV → Sto → PH → SRes} (I : Nat → Sto → PH → Prop) : ∀ (xs : List PV) (i : Nat) (σ : Sto) (h : PH), I i σ h →
    (∀ (j : Nat) (x : PV) (σ : Sto) (h : PH), xs[j]? = some x → I (i + j) σ h → s.ok h = true ∧ Go (body x σ h) (I (i + j + 1)) (fun σ h => N σ (s.unlock h)) (fun v h => R v (s.unlock h))) →
    (∀ (σ : Sto) (h : PH), I (i + xs.length) σ h → s.ok h = true ∧ N σ (s.unlock h)) → Go (loopL s body xs σ h) N B R
  | [], i, σ, h, h0, hs, he => by
    obtain ⟨e1, e2⟩ := he σ h h0
    simp only [loopL, e1, if_true]
    exact e2
  | x :: xs, i, σ, h, h0, hs, he => by
    obtain ⟨e1, e2⟩ := hs 0 x σ h rfl h0
    simp only [loopL, e1, if_true]
    cases hb : body x σ h with
    | go f σ' h' => cases f with
      | nx =>
        rw [hb] at e2
        refine loopL_inv I xs (i + 1) σ' h' e2 (fun j y σ2 h2 ey h3 => ?_) (fun σ2 h2 h3 => he σ2 h2 ?_)
        · have := hs (j + 1) y σ2 h2 (by simpa using ey) (by rw [show i + (j + 1) = i + 1 + j by omega]; exact h3)
          rw [show i + (j + 1) = i + 1 + j by omega] at this
          exact this
        · rw [List.length_cons, show i + (xs.length + 1) = i + 1 + xs.length by omega]; exact h3
      | brk => rw [hb] at e2; exact e2
      | ret v => rw [hb] at e2; exact e2
    | exc _ _ _ => rw [hb] at e2; exact e2.elim
    | bad => rw [hb] at e2; exact e2.elim
theorem for_inv {s : Src} {body : PV → Sto → PH → SRes} (I : Nat → Sto → PH → Prop) (h0 : I 0 σ h)
    (hs : ∀ (j : Nat) (x : PV) (σ : Sto) (h : PH), s.all[j]? = some x → I j σ h → s.ok h = true ∧ Go (body x σ h) (I (j + 1)) (fun σ h => N σ (s.unlock h)) (fun v h => R v (s.unlock h)))
    (he : ∀ (σ : Sto) (h : PH), I s.all.length σ h → s.ok h = true ∧ N σ (s.unlock h)) : Go (loopL s body s.all σ h) N B R :=
  loopL_inv I s.all 0 σ h h0 (fun j x σ h e q => by rw [Nat.zero_add] at q ⊢; exact hs j x σ h e q) (fun σ h q => by rw [Nat.zero_add] at q; exact he σ h q)
theorem loopC_inv {s : Src} {turn : PV → PH → Res (Option PV)} {Q : List PV → PH → Prop} (I : Nat → List PV → PH → Prop) : ∀ (xs : List PV) (i : Nat) (acc : List PV) (h : PH), I i acc h →
    (∀ (j : Nat) (x : PV) (acc : List PV) (h : PH), xs[j]? = some x → I (i + j) acc h → s.ok h = true ∧ Ok (turn x h) fun o h' => match o with
      | some v => acc.length < sizeLine ∧ I (i + j + 1) (acc ++ [v]) h'
      | none => I (i + j + 1) acc h') →
    (∀ (acc : List PV) (h : PH), I (i + xs.length) acc h → s.ok h = true ∧ Q acc (s.unlock h)) → Ok (loopC s turn xs acc h) Q
  | [], i, acc, h, h0, hs, he => by
    obtain ⟨e1, e2⟩ := he acc h h0
    simp only [loopC, e1, if_true]
    exact e2
  | x :: xs, i, acc, h, h0, hs, he => by
    obtain ⟨e1, e2⟩ := hs 0 x acc h rfl h0
    simp only [loopC, e1, if_true]
    have nxt : ∀ acc' h', I (i + 1) acc' h' → Ok (loopC s turn xs acc' h') Q := fun acc' h' q => by
      refine loopC_inv I xs (i + 1) acc' h' q (fun j y a2 h2 ey h3 => ?_) (fun a2 h2 h3 => he a2 h2 ?_)
      · have := hs (j + 1) y a2 h2 (by simpa using ey) (by rw [show i + (j + 1) = i + 1 + j by omega]; exact h3)
        rw [show i + (j + 1) = i + 1 + j by omega] at this
        exact this
      · rw [List.length_cons, show i + (xs.length + 1) = i + 1 + xs.length by omega]; exact h3
    cases hb : turn x h with
    | ok o h' =>
      rw [hb] at e2
      cases o with
      | none => exact nxt _ _ e2
      | some v =>
        obtain ⟨z, q⟩ := e2
        simp only [z, if_true]
        exact nxt _ _ q
    | exc _ _ => rw [hb] at e2; exact e2.elim
    | bad => rw [hb] at e2; exact e2.elim
theorem lc_inv {s : Src} {turn : PV → PH → Res (Option PV)} {Q : List PV → PH → Prop} (I : Nat → List PV → PH → Prop) (h0 : I 0 [] h)
    (hs : ∀ (j : Nat) (x : PV) (acc : List PV) (h : PH), s.all[j]? = some x → I j acc h → s.ok h = true ∧ Ok (turn x h) fun o h' => match o with
      | some v => acc.length < sizeLine ∧ I (j + 1) (acc ++ [v]) h'
      | none => I (j + 1) acc h')
    (he : ∀ (acc : List PV) (h : PH), I s.all.length acc h → s.ok h = true ∧ Q acc (s.unlock h)) : Ok (loopC s turn s.all [] h) Q :=
  loopC_inv I s.all 0 [] h h0 (fun j x a h e q => by rw [Nat.zero_add] at q ⊢; exact hs j x a h e q) (fun a h q => by rw [Nat.zero_add] at q; exact he a h q)
theorem while_inv {c : E} {b : List S} (I : Nat → Sto → PH → Prop) (hs : ∀ (m : Nat) (σ : Sto) (h : PH), I m σ h → Ok (evT G c σ h) fun k h => if k then Go (exs G b σ h) (fun σ h => ∃ m', m' < m ∧ I m' σ h) N R else N σ h) :
    ∀ (n m : Nat) (σ : Sto) (h : PH), m < n → I m σ h → Go (loopW (evT G c) (exs G b) n σ h) N B R
  | 0, m, σ, h, hn, _ => absurd hn (Nat.not_lt_zero _)
  | n + 1, m, σ, h, hn, hi => by
    have := hs m σ h hi
    rw [loopW]
    cases he : evT G c σ h with
    | ok k h1 =>
      rw [he] at this
      cases k with
      | false => exact this
      | true =>
        have this : Go (exs G b σ h1) (fun σ h => ∃ m', m' < m ∧ I m' σ h) N R := this
        dsimp only
        cases hb : exs G b σ h1 with
        | go f σ' h' => cases f with
          | nx =>
            rw [hb] at this
            obtain ⟨m', hm, hi'⟩ := this
            exact while_inv I hs n m' σ' h' (by omega) hi'
          | brk => rw [hb] at this; exact this
          | ret v => rw [hb] at this; exact this
        | exc _ _ _ => rw [hb] at this; exact this.elim
        | bad => rw [hb] at this; exact this.elim
    | exc _ _ => rw [he] at this; exact this.elim
    | bad => rw [he] at this; exact this.elim
theorem g_whl {c : E} {b : List S} : Go (ex G (.whl c b) σ h) N B R = Go (loopW (evT G c) (exs G b) nfuel σ h) N B R := by simp only [ex]
end
/-- a def's call by its body -/
theorem call_lvl {T : List DefI} {sub : Nat → Nat → Bool} {k f : Nat} {d : DefI} {ps : List PV} {h : PH} {Q : PV → PH → Prop} (hd : T[f]? = some d) (hl : ps.length = d.n)
    (hb : Go (exs (lvl T sub k) d.body (ps.map some ++ List.replicate (d.N.length - ps.length) none) h) (fun _ h => Q .non h) (fun _ _ => False) Q) : Ok ((lvl T sub (k + 1)).call f ps h) Q := by
  show Ok (match T[f]? with
    | some d => if ps.length = d.n then runD (lvl T sub k) d ps h else .bad
    | none => .bad) Q
  rw [hd]
  dsimp only
  rw [if_pos hl]
  unfold runD
  cases hx : exs (lvl T sub k) d.body (ps.map some ++ List.replicate (d.N.length - ps.length) none) h with
  | go f σ' h' => cases f with
    | nx => rw [hx] at hb; exact hb
    | brk => rw [hx] at hb; exact hb.elim
    | ret v => rw [hx] at hb; exact hb
  | exc _ _ _ => rw [hx] at hb; exact hb.elim
  | bad => rw [hx] at hb; exact hb.elim
end Z
end

section
set_option Elab.async false
set_option linter.all false
set_option maxRecDepth 100000
set_option autoImplicit false
set_option maxHeartbeats 1000000
/-! C2: values written: holes, lines; tables, sorting. -/
namespace Z
open PySem L2

/-! ### heaps that go on -/
theorem pre_at {h h' : PH} (p : h <+: h') {l : Nat} {o : PO} (e : h[l]? = some o) : h'[l]? = some o := by
  obtain ⟨t, rfl⟩ := p
  rw [List.getElem?_append_left (List.getElem?_eq_some_iff.mp e).1]
  exact e
theorem pre_set {h h' : PH} (p : h <+: h') {i : Nat} {o : PO} (hi : h.length ≤ i) : h <+: h'.set i o := by
  obtain ⟨t, rfl⟩ := p
  rw [List.set_append_right _ _ hi]
  exact List.prefix_append _ _
theorem pre_app {h h' t : PH} (p : h <+: h') : h <+: h' ++ t := p.trans (List.prefix_append _ _)
theorem at_new {h : PH} {o : PO} {t : PH} : (h ++ o :: t)[h.length]? = some o := by simp
theorem at_lt {h : PH} {l : Nat} {o : PO} (e : h[l]? = some o) : l < h.length := (List.getElem?_eq_some_iff.mp e).1
theorem at_app {h t : PH} {l : Nat} {o : PO} (e : h[l]? = some o) : (h ++ t)[l]? = some o := pre_at (List.prefix_append _ _) e
theorem at_set_ne {h : PH} {l i : Nat} {o : PO} {u : Option PO} (n : i ≠ l) (e : h[l]? = u) : (h.set i o)[l]? = u := by rw [List.getElem?_set_ne n]; exact e
theorem at_set {h : PH} {l : Nat} {o u : PO} (e : h[l]? = some u) : (h.set l o)[l]? = some o := List.getElem?_set_self (at_lt e)

/-! ### written values -/
class En (α : Type) where
  en : α → PV
class EnK (α : Type) extends En α where
  inj : ∀ {a b : α}, en a = en b → a = b
  ok : ∀ a : α, okKey (en a) = true
  tp : ∀ a : α, tupK (en a) = true
class EnS (α : Type) extends En α where
  da : α → PyData
  dd_en : ∀ (h : PH) (a : α), dat h 12 (en a) = some (da a)
  al : ∀ a b : α, PySem.W.alike (da a) (da b) = true
  it : ∀ a : α, ∃ x r, da a = .tuple (x :: r)
open En
abbrev Hole := Int × Int
abbrev Line := Hole × Hole
def hv (p : Hole) : PV := .tup [.int p.1, .int p.2]
def lv (l : Line) : PV := .tup [hv l.1, hv l.2]
def hd (p : Hole) : PyData := .tuple [.int p.1, .int p.2]
def ld (l : Line) : PyData := .tuple [hd l.1, hd l.2]
theorem hv_inj {a b : Hole} (e : hv a = hv b) : a = b := by
  obtain ⟨a1, a2⟩ := a
  obtain ⟨b1, b2⟩ := b
  simp only [hv, PV.tup.injEq, List.cons.injEq, PV.int.injEq, and_true] at e
  rw [e.1, e.2]
theorem lv_inj {a b : Line} (e : lv a = lv b) : a = b := by
  obtain ⟨a1, a2⟩ := a
  obtain ⟨b1, b2⟩ := b
  simp only [lv, PV.tup.injEq, List.cons.injEq, and_true] at e
  rw [hv_inj e.1, hv_inj e.2]
instance : EnK Hole where
  en := hv
  inj := hv_inj
  ok := fun a => by simp [hv, okKey, nkey, nkeys, NestedKey.depth, NestedKey.depthAll]
  tp := fun a => rfl
instance : EnK Line where
  en := lv
  inj := lv_inj
  ok := fun a => by simp [lv, hv, okKey, nkey, nkeys, NestedKey.depth, NestedKey.depthAll]
  tp := fun a => rfl
instance : EnS Hole where
  da := hd
  dd_en := fun h a => by simp [en, hv, hd, dat, optAll]
  al := fun a b => by simp [hd, PySem.W.alike, PySem.W.alikeAll]
  it := fun a => ⟨_, _, rfl⟩
instance : EnS Line where
  da := ld
  dd_en := fun h a => by simp [en, lv, hv, ld, hd, dat, optAll]
  al := fun a b => by simp [ld, hd, PySem.W.alike, PySem.W.alikeAll]
  it := fun a => ⟨_, _, rfl⟩

/-! ### tables -/
section
variable {α β : Type} [DecidableEq α]
def aget (m : List (α × β)) (k : α) : Option β := (m.find? fun p => decide (p.1 = k)).map (·.2)
def aput (m : List (α × β)) (k : α) (v : β) : List (α × β) := if m.any (fun p => decide (p.1 = k)) then m.map (fun p => if p.1 = k then (p.1, v) else p) else m ++ [(k, v)]
def enT [EnK α] (f : β → PV) (m : List (α × β)) : List (PV × PV) := m.map fun p => (en p.1, f p.2)
variable [EnK α] {f : β → PV} {m : List (α × β)} {k : α} {v : β}
theorem en_dec {a b : α} : decide (en a = en b) = decide (a = b) := by
  by_cases e : a = b
  · simp [e]
  · rw [decide_eq_false e, decide_eq_false fun z => e (EnK.inj z)]
theorem dget_en : dget (enT f m) (en k) = (aget m k).map f := by
  unfold dget aget enT
  induction m with
  | nil => rfl
  | cons p r ih =>
    rw [List.map_cons, List.find?_cons, List.find?_cons]
    dsimp only
    rw [en_dec]
    cases decide (p.1 = k) with
    | true => rfl
    | false => exact ih
theorem any_en : ((enT f m).any fun p => decide (p.1 = en k)) = m.any fun p => decide (p.1 = k) := by
  unfold enT
  rw [List.any_map]
  congr 1
  funext p
  exact en_dec
theorem dput_en : dput (enT f m) (en k) (f v) = enT f (aput m k v) := by
  unfold dput aput
  rw [any_en]
  split
  · unfold enT
    rw [List.map_map, List.map_map]
    refine List.map_congr_left fun p _ => ?_
    dsimp only [Function.comp]
    by_cases e : p.1 = k
    · rw [if_pos (by rw [e]), if_pos e]
    · rw [if_neg fun z => e (EnK.inj z), if_neg e]
  · unfold enT
    rw [List.map_append]
    rfl
theorem fitK_en : fitK (enT f m) (en k) = true := by
  unfold fitK enT
  rw [EnK.ok]
  cases m with
  | nil => rfl
  | cons p r =>
    show (tupK (en p.1) == tupK (en k)) = true
    rw [EnK.tp, EnK.tp]
    rfl
theorem aput_len : (aput m k v).length ≤ m.length + 1 := by
  unfold aput
  split
  · rw [List.length_map]; omega
  · simp
theorem mem_aput {p : α × β} (h : p ∈ aput m k v) : p = (k, v) ∨ p ∈ m := by
  unfold aput at h
  split at h
  · obtain ⟨q, hq, e⟩ := List.mem_map.mp h
    split at e
    · rename_i z; left; rw [← e, z]
    · right; rw [← e]; exact hq
  · rcases List.mem_append.mp h with h | h
    · exact .inr h
    · simp at h; exact .inl h
theorem any_mem {m : List (α × β)} {k : α} : (m.any fun p => decide (p.1 = k)) = true ↔ k ∈ m.map (·.1) := by
  rw [List.any_eq_true]
  constructor
  · rintro ⟨p, hp, e⟩
    exact List.mem_map.mpr ⟨p, hp, of_decide_eq_true e⟩
  · intro h
    obtain ⟨p, hp, e⟩ := List.mem_map.mp h
    exact ⟨p, hp, decide_eq_true e⟩
theorem aput_keys : (aput m k v).map (·.1) = if k ∈ m.map (·.1) then m.map (·.1) else m.map (·.1) ++ [k] := by
  unfold aput
  by_cases h : k ∈ m.map (·.1)
  · rw [if_pos (any_mem.mpr h), if_pos h, List.map_map]
    refine List.map_congr_left fun p _ => ?_
    dsimp only [Function.comp]
    split <;> rfl
  · rw [if_neg fun z => h (any_mem.mp z), if_neg h, List.map_append]
    rfl
theorem aput_nodup (nd : (m.map (·.1)).Nodup) : ((aput m k v).map (·.1)).Nodup := by
  rw [aput_keys]
  split
  · exact nd
  · rename_i h
    rw [List.nodup_append]
    exact ⟨nd, by simp, fun a ha b hb => by simp at hb; subst hb; exact fun z => h (z ▸ ha)⟩
theorem aget_some {u : β} (h : aget m k = some u) : (k, u) ∈ m := by
  unfold aget at h
  rw [Option.map_eq_some_iff] at h
  obtain ⟨p, hp, rfl⟩ := h
  have h1 := List.find?_some hp
  have h2 := List.mem_of_find?_eq_some hp
  have : p.1 = k := of_decide_eq_true h1
  rw [← this]
  exact h2
theorem aget_none : aget m k = none ↔ k ∉ m.map (·.1) := by
  unfold aget
  rw [Option.map_eq_none_iff, List.find?_eq_none]
  constructor
  · intro h hm
    obtain ⟨p, hp, e⟩ := List.mem_map.mp hm
    exact h p hp (decide_eq_true e)
  · intro h p hp e
    exact h (List.mem_map.mpr ⟨p, hp, of_decide_eq_true e⟩)
theorem aget_put_self : aget (aput m k v) k = some v := by
  unfold aput
  split
  · rename_i h
    unfold aget
    induction m with
    | nil => simp at h
    | cons p r ih =>
      rw [List.map_cons, List.find?_cons]
      by_cases e : p.1 = k
      · rw [if_pos e]
        simp [e]
      · rw [if_neg e]
        simp only [decide_eq_false e]
        refine ih ?_
        rw [List.any_cons, decide_eq_false e, Bool.false_or] at h
        exact h
  · rename_i h
    unfold aget
    rw [List.find?_append]
    have : (m.find? fun p => decide (p.1 = k)) = none := by
      rw [List.find?_eq_none]
      intro p hp e
      exact h (List.any_eq_true.mpr ⟨p, hp, e⟩)
    rw [this]
    simp
theorem aget_put_ne {j : α} (n : j ≠ k) : aget (aput m k v) j = aget m j := by
  unfold aput
  split
  · rename_i h
    have : ∀ m : List (α × β), aget (m.map fun p => if p.1 = k then (p.1, v) else p) j = aget m j := by
      intro m
      unfold aget
      induction m with
      | nil => rfl
      | cons p r ih =>
        rw [List.map_cons, List.find?_cons, List.find?_cons]
        by_cases e : p.1 = k
        · rw [if_pos e]
          have n2 : ¬ p.1 = j := fun z => n (z.symm.trans e)
          simp only [decide_eq_false n2]
          exact ih
        · rw [if_neg e]
          cases decide (p.1 = j) with
          | true => rfl
          | false => exact ih
    exact this m
  · unfold aget
    rw [List.find?_append]
    cases (m.find? fun p => decide (p.1 = j)) with
    | some p => rfl
    | none => simp [Ne.symm n]
end

/-! ### reading -/
section
variable {h : PH} {l : Nat} {xs : List PV} {kvs : List (PV × PV)} {n : Nat} {s : Src} {body : PV → Sto → PH → SRes} {x : PV} {σ : Sto} {N B : Sto → PH → Prop} {R : PV → PH → Prop}
theorem src_l (e : h[l]? = some (.lst xs)) : srcOf (.ref l) h = some (.lst l xs) := by simp [srcOf, e]
theorem src_d (e : h[l]? = some (.dct kvs n)) : srcOf (.ref l) h = some (.dct l (kvs.map (·.1)) n) := by simp [srcOf, e]
theorem src_t : srcOf (.tup xs) h = some (.tup xs) := rfl
theorem ok_l (e : h[l]? = some (.lst xs)) : Src.ok h (.lst l xs) = true := by simp [Src.ok, lstAt, e]
theorem g_loopC : Go (loopL s body (x :: xs) σ h) N B R = (s.ok h = true ∧ Go (body x σ h) (fun σ h => Go (loopL s body xs σ h) N B R) (fun σ h => N σ (s.unlock h)) (fun v h => R v (s.unlock h))) := by
  simp only [loopL]
  by_cases e : s.ok h = true
  · rw [if_pos e]
    cases body x σ h with
    | go f σ' h' => cases f <;> simp [Go, e]
    | exc _ _ _ => simp [Go, e]
    | bad => simp [Go, e]
  · rw [if_neg e]; simp [Go, e]
theorem g_loopN : Go (loopL s body [] σ h) N B R = (s.ok h = true ∧ N σ (s.unlock h)) := by
  simp only [loopL]
  by_cases e : s.ok h = true
  · rw [if_pos e]; simp [Go, e]
  · rw [if_neg e]; simp [Go, e]
theorem ok_tup : Src.ok h (.tup xs) = true := rfl
theorem lock_l : Src.lock (.lst l xs) h = h := rfl
theorem lock_t : Src.lock (.tup xs) h = h := rfl
theorem unlock_l : Src.unlock (.lst l xs) h = h := rfl
theorem unlock_t : Src.unlock (.tup xs) h = h := rfl
theorem all_l : Src.all (.lst l xs) = xs := rfl
theorem all_t : Src.all (.tup xs) = xs := rfl
theorem ty_d (e : h[l]? = some (.dct kvs n)) : tyV .dict (.ref l) h = true := by simp [tyV, e]
theorem ty_l (e : h[l]? = some (.lst xs)) : tyV .list (.ref l) h = true := by simp [tyV, e]
theorem get2_d {k v : PV} (e : h[l]? = some (.dct kvs n)) (f : fitK kvs k = true) : get2V (.ref l) k v h = some ((dget kvs k).getD v, h) := by simp [get2V, e, f]
theorem set_d {k v : PV} (e : h[l]? = some (.dct kvs 0)) (f : fitK kvs k = true) (z : kvs.length < sizeLine) : setV (.ref l) k v h = some (h.set l (.dct (dput kvs k v) 0)) := by simp [setV, e, f, z]
theorem app_l {v : PV} (e : h[l]? = some (.lst xs)) (z : xs.length < sizeLine) : appendV (.ref l) v h = some (.non, h.set l (.lst (xs ++ [v]))) := by simp [appendV, e, z]
theorem idx_d {k v : PV} (e : h[l]? = some (.dct kvs n)) (f : fitK kvs k = true) (g : dget kvs k = some v) : idxV (.ref l) k h = some (v, h) := by simp [idxV, e, f, g]
end
end Z
end

section
set_option Elab.async false
set_option linter.all false
set_option maxRecDepth 100000
set_option autoImplicit false
/-! C3: small steps. -/
namespace Z
open PySem L2

section
variable {h : PH} {a b c : PV} {r : List PV} {i j : Int}
theorem idx_i {xs : List PV} (hi : 0 ≤ i) {v : PV} (e : xs[i.toNat]? = some v) : idxV (.tup xs) (.int i) h = some (v, h) := by
  have hl := (List.getElem?_eq_some_iff.mp e).1
  simp only [idxV, atI, ixN]
  rw [if_pos hi, if_pos (by omega)]
  simp [e]
theorem idx_t0 : idxV (.tup (a :: r)) (.int 0) h = some (a, h) := idx_i (by decide) rfl
theorem idx_t1 : idxV (.tup (a :: b :: r)) (.int 1) h = some (b, h) := idx_i (by decide) rfl
theorem idx_t2 : idxV (.tup (a :: b :: c :: r)) (.int 2) h = some (c, h) := idx_i (by decide) rfl
theorem idx_ro {xs : List PV} (hi : 0 ≤ i) {v : PV} (e : xs[i.toNat]? = some v) : idxV (.ro xs) (.int i) h = some (v, h) := by
  have hl := (List.getElem?_eq_some_iff.mp e).1
  simp only [idxV, atI, ixN]
  rw [if_pos hi, if_pos (by omega)]
  simp [e]
theorem idx_l {l : Nat} {xs : List PV} (eh : h[l]? = some (.lst xs)) (hi : 0 ≤ i) {v : PV} (e : xs[i.toNat]? = some v) : idxV (.ref l) (.int i) h = some (v, h) := by
  have hl := (List.getElem?_eq_some_iff.mp e).1
  simp only [idxV, eh, atI, ixN]
  rw [if_pos hi, if_pos (by omega)]
  simp [e]
theorem neg_i : negR (.int i) h = .ok (.int (-i)) h := rfl
theorem tr_b {k : Bool} : truth (.bl k) h = some k := rfl
theorem add_i : opV .add (.int i) (.int j) h = some (.int (i + j), h) := rfl
theorem sub_i : opV .sub (.int i) (.int j) h = some (.int (i - j), h) := rfl
theorem mul_i (hs : smallI j = true) : opV .mul (.int i) (.int j) h = some (.int (i * j), h) := by simp [opV, mulV, hs]
theorem mul_i' (hs : smallI i = true) : opV .mul (.int i) (.int j) h = some (.int (i * j), h) := by simp [opV, mulV, hs]
theorem mod_i (hj : 0 < j) : opV .mod (.int i) (.int j) h = some (.int (i % j), h) := by simp [opV, modV, hj]
theorem div_i (hj : 0 < j) (hz : j < 10 ^ 60) : opV .fdiv (.int i) (.int j) h = some (.int (i / j), h) := by simp only [opV, fdivV, hj, hz, and_self, if_true]
theorem eq_i : cmpO .eq (.int i) (.int j) h = some (decide (i = j)) := by simp [cmpO, pyEq, isScal, noMix]
theorem ne_i : cmpO .ne (.int i) (.int j) h = some (!decide (i = j)) := by simp [cmpO, pyEq, isScal, noMix]
theorem lt_i : cmpO .lt (.int i) (.int j) h = some (decide (i < j)) := rfl
theorem le_i : cmpO .le (.int i) (.int j) h = some (decide (i ≤ j)) := rfl
theorem gt_i : cmpO .gt (.int i) (.int j) h = some (decide (j < i)) := rfl
theorem ge_i : cmpO .ge (.int i) (.int j) h = some (decide (j ≤ i)) := rfl
theorem eq_b {p q : Bool} : cmpO .eq (.bl p) (.bl q) h = some (decide (p = q)) := by simp [cmpO, pyEq, isScal, noMix]
theorem dict0 : dicV [] [] h = some (.ref h.length, h ++ [.dct [] 0]) := by simp [dicV, sameK, dupd]
theorem cat_l {l m : Nat} {xs ys : List PV} (e1 : h[l]? = some (.lst xs)) (e2 : h[m]? = some (.lst ys)) (z : xs.length + ys.length ≤ sizeLine) : opV .add (.ref l) (.ref m) h = some (.ref h.length, h ++ [.lst (xs ++ ys)]) := by simp [opV, addV, e1, e2, z]
theorem in_d {l : Nat} {kvs : List (PV × PV)} {n : Nat} {k : PV} (e : h[l]? = some (.dct kvs n)) (f : fitK kvs k = true) : cmpO .isin k (.ref l) h = some (dget kvs k).isSome := by simp [cmpO, containsV, e, f]
theorem nin_d {l : Nat} {kvs : List (PV × PV)} {n : Nat} {k : PV} (e : h[l]? = some (.dct kvs n)) (f : fitK kvs k = true) : cmpO .nin k (.ref l) h = some (!(dget kvs k).isSome) := by simp [cmpO, containsV, e, f]
theorem len_l {l : Nat} {xs : List PV} (e : h[l]? = some (.lst xs)) : lenV (.ref l) h = some (.int xs.length, h) := by simp [lenV, e]
theorem len_d {l : Nat} {kvs : List (PV × PV)} {n : Nat} (e : h[l]? = some (.dct kvs n)) : lenV (.ref l) h = some (.int kvs.length, h) := by simp [lenV, e]
theorem len_ro {xs : List PV} : lenV (.ro xs) h = some (.int xs.length, h) := rfl
theorem seq_l {l : Nat} {xs : List PV} (e : h[l]? = some (.lst xs)) : seqV (.ref l) h = some xs := by simp [seqV, e]
theorem seq_d {l : Nat} {kvs : List (PV × PV)} {n : Nat} (e : h[l]? = some (.dct kvs n)) : seqV (.ref l) h = some (kvs.map (·.1)) := by simp [seqV, e]
theorem isl_l {l : Nat} {xs : List PV} (e : h[l]? = some (.lst xs)) : isLst (.ref l) h = true := by simp [isLst, e]
theorem srt_l {l : Nat} {xs ys : List PV} (e : h[l]? = some (.lst xs)) (s : sortV h xs = some ys) : sortedV (.ref l) h = some (.ref h.length, h ++ [.lst ys]) := by simp [sortedV, seq_l e, s]
theorem srt_d {l : Nat} {kvs : List (PV × PV)} {n : Nat} {ys : List PV} (e : h[l]? = some (.dct kvs n)) (s : sortV h (kvs.map (·.1)) = some ys) : sortedV (.ref l) h = some (.ref h.length, h ++ [.lst ys]) := by simp [sortedV, seq_d e, s]
theorem lst_l {l : Nat} {xs : List PV} (e : h[l]? = some (.lst xs)) : listV (.ref l) h = some (.ref h.length, h ++ [.lst xs]) := by simp [listV, seq_l e]
theorem sum_l {l : Nat} {xs : List PV} {is : List Int} (e : h[l]? = some (.lst xs)) (i : intsOf xs = some is) : sumV (.ref l) h = some (.int is.sum, h) := by simp [sumV, isl_l e, seq_l e, i]
theorem abs_i : absV (.int i) h = some (.int (if i < 0 then -i else i), h) := rfl
theorem max_i : max2V (.int i) (.int j) h = some (.int (if j > i then j else i), h) := rfl
theorem ints_of : ∀ is : List Int, intsOf (is.map PV.int) = some is
  | [] => rfl
  | i :: r => by rw [List.map_cons, intsOf, ints_of r]; rfl
theorem tr_i : truth (.int i) h = some (i != 0) := rfl
end
end Z
end

section
set_option Elab.async false
set_option linter.all false
set_option maxRecDepth 100000
set_option autoImplicit false
set_option maxHeartbeats 2000000
/-! P1: pieces and needs, walked. -/
namespace Z
open PySem L2
open En

/-! ### sorting -/
section
variable {α : Type} [EnS α]
def leS (a b : α) : Bool := !PySem.W.dataLt (EnS.da b) (EnS.da a)
def sortE (xs : List α) : List α := xs.mergeSort leS
theorem dds_en (h : PH) (xs : List α) : optAll ((xs.map en).map (dd h)) = some (xs.map EnS.da) := by
  induction xs with
  | nil => rfl
  | cons x r ih =>
    rw [List.map_cons, List.map_cons, show dd h (en x) = some (EnS.da x) from EnS.dd_en h x, optAll, ih]
    rfl
theorem fit_en (xs : List α) : (alikeAllB (xs.map EnS.da) && sortableB (xs.map EnS.da)) = true := by
  rw [Bool.and_eq_true]
  refine ⟨?_, ?_⟩
  · unfold alikeAllB
    rw [List.all_map, List.all_eq_true]
    intro a _
    show (List.all (xs.map EnS.da) _) = true
    rw [List.all_map, List.all_eq_true]
    intro b _
    exact EnS.al a b
  · unfold sortableB
    rw [Bool.or_eq_true]
    left
    rw [List.all_map, List.all_eq_true]
    intro a _
    obtain ⟨x, r, e⟩ := EnS.it a
    show (match EnS.da a with
      | .tuple (_ :: _) => true
      | _ => false) = true
    rw [e]
theorem sortV_en (h : PH) (xs : List α) : sortV h (xs.map en) = some ((sortE xs).map en) := by
  unfold sortV
  rw [dds_en]
  dsimp only
  rw [if_pos (fit_en xs)]
  unfold sortBy sortE
  have e : (xs.map en).zip (xs.map EnS.da) = xs.map fun a => (en a, EnS.da a) := by
    induction xs with
    | nil => rfl
    | cons x r ih => rw [List.map_cons, List.map_cons, List.zip_cons_cons, ih]; rfl
  rw [e, ← List.map_mergeSort (r := leS) (f := fun a : α => (en a, EnS.da a)) (fun a _ b _ => rfl), List.map_map]
  rfl
theorem sortE_perm (xs : List α) : (sortE xs).Perm xs := List.mergeSort_perm xs _
end

/-! ### surplus -/
abbrev Tab := List (Hole × Int)
def bump (m : Int) (acc : Tab) (p : Hole) : Tab := aput acc p ((aget acc p).getD 0 + m)
def bumpL (m : Int) (acc : Tab) (l : Line) : Tab := bump m (bump m acc l.1) l.2
def foundT (A B : List Line) : Tab := B.foldl (bumpL (-1)) (A.foldl (bumpL 1) [])
def surp (A B : List Line) : List (Hole × Int) := ((sortE ((foundT A B).map (·.1))).filter fun p => decide ((aget (foundT A B) p).getD 0 ≠ 0)).map fun p => (p, (aget (foundT A B) p).getD 0)
def iv (i : Int) : PV := .int i
def B_surplus : List S := [.asg (.nm 1) (.dic []),
  .for_ (.tp [.nm 2, .nm 3]) (.val (.lst [.tup [.idx (.var 0) (.int 0), .int 1], .tup [.idx (.var 0) (.int 1), .neg (.int 1)]])) [.for_ (.nm 4) (.val (.var 2)) [.for_ (.nm 5) (.val (.var 4)) [.asg (.sub (.var 1) (.var 5)) (.op .add (.bm .get2 (.var 1) [.var 5, .int 0]) (.var 3))]]],
  .ret (.lc (.nm 5) (.val (.bi .sorted [.var 1])) (some (.cmp .ne (.idx (.var 1) (.var 5)) (.int 0))) (.tup [.var 5, .idx (.var 1) (.var 5)]) [5])]
theorem bump_len {m : Int} {acc : Tab} {p : Hole} : (bump m acc p).length ≤ acc.length + 1 := aput_len
theorem bumpL_len {m : Int} {acc : Tab} {l : Line} : (bumpL m acc l).length ≤ acc.length + 2 := by
  have h1 := bump_len (m := m) (acc := bump m acc l.1) (p := l.2)
  have h2 := bump_len (m := m) (acc := acc) (p := l.1)
  unfold bumpL
  omega
theorem foldl_len (m : Int) : ∀ (A : List Line) (acc : Tab), (A.foldl (bumpL m) acc).length ≤ acc.length + 2 * A.length
  | [], acc => by simp
  | l :: A, acc => by
    have h1 := foldl_len m A (bumpL m acc l)
    have h2 := bumpL_len (m := m) (acc := acc) (l := l)
    rw [List.foldl_cons, List.length_cons]
    omega
/-- the loop over one face's lines -/
theorem surplus_face {G : Env} {N B : Sto → PH → Prop} {R : PV → PH → Prop} {h hh : PH} {w x4 x5 : Option PV} {f l : Nat} {m : Int} {A : List Line} {acc : Tab} (hp : h <+: hh) (hl : h[l]? = some (.lst (A.map lv))) (hf : hh[f]? = some (.dct (enT iv acc) 0)) (hfl : h.length ≤ f) (hz : acc.length + 2 * A.length < sizeLine)
    (hN : ∀ hh' x4 x5, hh'.length = hh.length → (∀ i, i ≠ f → hh'[i]? = hh[i]?) → h <+: hh' → hh'[f]? = some (.dct (enT iv (A.foldl (bumpL m) acc)) 0) → N [w, some (.ref f), some (.ref l), some (.int m), x4, x5] hh') :
    Go (ex G (.for_ (.nm 4) (.val (.var 2)) [.for_ (.nm 5) (.val (.var 4)) [.asg (.sub (.var 1) (.var 5)) (.op .add (.bm .get2 (.var 1) [.var 5, .int 0]) (.var 3))]]) [w, some (.ref f), some (.ref l), some (.int m), x4, x5] hh) N B R := by
  simp only [g_nil, g_cons, g_asg, g_expr, g_ret, g_retN, g_pass, g_brk, g_ife, g_for, g_forB, g_whl, k_var, k_non, k_bl, k_int, k_str, k_op, k_neg, k_not, k_and, k_or, k_and1, k_and2, k_or1, k_or2, k_cmp, k_idx, k_slc, k_iN, k_iS, k_tup, k_lst, k_dic, k_call, k_bi, k_bm, k_isi, k_nil, k_cons, k_T, k_cN, k_cS, k_lc, k_lcT, k_val, k_rng1, k_rng2, k_enum, k_zip, k_nm, k_tpT, k_tsN, k_tsC, k_sub, ok_ok, List.getElem?_cons_zero, List.getElem?_cons_succ, List.set_cons_zero, List.set_cons_succ, Option.some.injEq, exists_eq_left', List.length_cons, List.length_nil, true_and, and_true, exists_eq_left, wipeP, ok_tup, lock_l, lock_t, unlock_l, unlock_t, all_l, all_t, src_t, bmT, bmV, on0, on1, on2, biV, idx_t0, idx_t1, idx_t2, neg_i, tr_b, add_i, sub_i, eq_i, ne_i, lt_i, le_i, gt_i, ge_i, eq_b, dict0, sizeLine_eq, Nat.reduceAdd, Nat.reduceLeDiff, Nat.zero_add, evens, odds, abs_i, max_i, src_l (pre_at hp hl)]
  refine for_inv (s := .lst l (A.map lv)) (fun j σ h' => ∃ x4 x5, σ = [w, some (.ref f), some (.ref l), some (.int m), x4, x5] ∧ h'.length = hh.length ∧ (∀ i, i ≠ f → h'[i]? = hh[i]?) ∧ h <+: h' ∧ h'[f]? = some (.dct (enT iv ((A.take j).foldl (bumpL m) acc)) 0)) ?_ ?_ ?_
  · exact ⟨x4, x5, rfl, rfl, fun _ _ => rfl, hp, by rw [List.take_zero]; exact hf⟩
  · rintro j x σ h' ex ⟨y4, y5, rfl, e1, e2, e3, e4⟩
    refine ⟨ok_l (pre_at e3 hl), ?_⟩
    have ex : (A.map lv)[j]? = some x := ex
    rw [List.getElem?_map, Option.map_eq_some_iff] at ex
    obtain ⟨L, eL, rfl⟩ := ex
    have hz2 : ((A.take j).foldl (bumpL m) acc).length + 2 ≤ sizeLine - 1 := by
      have h1 := foldl_len m (A.take j) acc
      have h2 : j < A.length := (List.getElem?_eq_some_iff.mp eL).1
      rw [List.length_take] at h1
      omega
    have hput : ∀ (acc : Tab) (p : Hole), dput (enT iv acc) (hv p) (.int ((aget acc p).getD 0 + m)) = enT iv (bump m acc p) := fun acc p => dput_en (f := iv) (k := p) (v := (aget acc p).getD 0 + m)
    have hget : ∀ (acc : Tab) (p : Hole), (dget (enT iv acc) (hv p)).getD (.int 0) = .int ((aget acc p).getD 0) := fun acc p => by
      rw [show dget (enT iv acc) (hv p) = (aget acc p).map iv from dget_en]
      cases aget acc p <;> rfl
    have hfit : ∀ (acc : Tab) (p : Hole), fitK (enT iv acc) (hv p) = true := fun acc p => fitK_en (k := p)
    have hlen : ∀ acc : Tab, (enT iv acc).length = acc.length := fun acc => List.length_map _
    have turn : ∀ {N : Sto → PH → Prop} {B : Sto → PH → Prop} {R : PV → PH → Prop} {h2 : PH} {acc : Tab} {p : Hole} {z4 z5 : Option PV}, h2[f]? = some (.dct (enT iv acc) 0) → acc.length < sizeLine → N [w, some (.ref f), some (.ref l), some (.int m), z4, some (hv p)] (h2.set f (.dct (enT iv (bump m acc p)) 0)) →
        Go (forB G (.nm 5) [.asg (.sub (.var 1) (.var 5)) (.op .add (.bm .get2 (.var 1) [.var 5, .int 0]) (.var 3))] (hv p) [w, some (.ref f), some (.ref l), some (.int m), z4, z5] h2) N B R := by
      intro N B R h2 acc p z4 z5 e hz q
      simp only [g_nil, g_cons, g_asg, g_expr, g_ret, g_retN, g_pass, g_brk, g_ife, g_for, g_forB, g_whl, k_var, k_non, k_bl, k_int, k_str, k_op, k_neg, k_not, k_and, k_or, k_and1, k_and2, k_or1, k_or2, k_cmp, k_idx, k_slc, k_iN, k_iS, k_tup, k_lst, k_dic, k_call, k_bi, k_bm, k_isi, k_nil, k_cons, k_T, k_cN, k_cS, k_lc, k_lcT, k_val, k_rng1, k_rng2, k_enum, k_zip, k_nm, k_tpT, k_tsN, k_tsC, k_sub, ok_ok, List.getElem?_cons_zero, List.getElem?_cons_succ, List.set_cons_zero, List.set_cons_succ, Option.some.injEq, exists_eq_left', List.length_cons, List.length_nil, true_and, and_true, exists_eq_left, wipeP, ok_tup, lock_l, lock_t, unlock_l, unlock_t, all_l, all_t, src_t, bmT, bmV, on0, on1, on2, biV, idx_t0, idx_t1, idx_t2, neg_i, tr_b, add_i, sub_i, eq_i, ne_i, lt_i, le_i, gt_i, ge_i, eq_b, dict0, sizeLine_eq, Nat.reduceAdd, Nat.reduceLeDiff, Nat.zero_add, evens, odds, abs_i, max_i, ty_d e, get2_d e (hfit acc p), hget, opV, addV, set_d e (hfit acc p) (by rw [hlen]; exact hz), hput]
      exact q
    simp only [g_nil, g_cons, g_asg, g_expr, g_ret, g_retN, g_pass, g_brk, g_ife, g_for, g_forB, g_whl, k_var, k_non, k_bl, k_int, k_str, k_op, k_neg, k_not, k_and, k_or, k_and1, k_and2, k_or1, k_or2, k_cmp, k_idx, k_slc, k_iN, k_iS, k_tup, k_lst, k_dic, k_call, k_bi, k_bm, k_isi, k_nil, k_cons, k_T, k_cN, k_cS, k_lc, k_lcT, k_val, k_rng1, k_rng2, k_enum, k_zip, k_nm, k_tpT, k_tsN, k_tsC, k_sub, ok_ok, List.getElem?_cons_zero, List.getElem?_cons_succ, List.set_cons_zero, List.set_cons_succ, Option.some.injEq, exists_eq_left', List.length_cons, List.length_nil, true_and, and_true, exists_eq_left, wipeP, ok_tup, lock_l, lock_t, unlock_l, unlock_t, all_l, all_t, src_t, bmT, bmV, on0, on1, on2, biV, idx_t0, idx_t1, idx_t2, neg_i, tr_b, add_i, sub_i, eq_i, ne_i, lt_i, le_i, gt_i, ge_i, eq_b, dict0, sizeLine_eq, Nat.reduceAdd, Nat.reduceLeDiff, Nat.zero_add, evens, odds, abs_i, max_i, lv]
    rw [g_loopC]
    refine ⟨rfl, turn e4 (by omega) ?_⟩
    rw [g_loopC]
    refine ⟨rfl, turn (acc := bump m ((A.take j).foldl (bumpL m) acc) L.1) (at_set e4) (by have := bump_len (m := m) (acc := (A.take j).foldl (bumpL m) acc) (p := L.1); omega) ?_⟩
    rw [g_loopN]
    refine ⟨rfl, ?_⟩
    simp only [unlock_t]
    have e5 : (h'.set f (.dct (enT iv (bump m ((A.take j).foldl (bumpL m) acc) L.1)) 0))[f]? = some (.dct (enT iv (bump m ((A.take j).foldl (bumpL m) acc) L.1)) 0) := at_set e4
    refine ⟨_, _, rfl, by rw [List.length_set, List.length_set]; exact e1, fun i hi => ?_, pre_set (pre_set e3 hfl) hfl, ?_⟩
    · rw [List.getElem?_set_ne (Ne.symm hi), List.getElem?_set_ne (Ne.symm hi)]
      exact e2 i hi
    · rw [List.take_add_one, eL, Option.toList_some, List.foldl_append]
      exact at_set e5
  · rintro σ h' ⟨y4, y5, rfl, e1, e2, e3, e4⟩
    refine ⟨ok_l (pre_at e3 hl), ?_⟩
    have hlen : (Src.lst l (A.map lv)).all.length = A.length := by simp [Src.all]
    rw [hlen, List.take_length] at e4
    exact hN h' y4 y5 e1 e2 e3 e4

theorem get_tab {acc : Tab} {p : Hole} (hm : p ∈ acc.map (·.1)) : dget (enT iv acc) (hv p) = some (.int ((aget acc p).getD 0)) := by
  rw [show dget (enT iv acc) (hv p) = (aget acc p).map iv from dget_en]
  cases e : aget acc p with
  | none => exact absurd hm (aget_none.mp e)
  | some v => rfl
theorem keys_tab (acc : Tab) : (enT iv acc).map (·.1) = (acc.map (·.1)).map hv := by
  unfold enT
  rw [List.map_map, List.map_map]
  rfl
/-- surplus(work) -/
theorem surplus_ok {G : Env} {N B : Sto → PH → Prop} {R : PV → PH → Prop} {h : PH} {l1 l2 : Nat} {A C : List Line} (h1 : h[l1]? = some (.lst (A.map lv))) (h2 : h[l2]? = some (.lst (C.map lv))) (hz : 2 * A.length + 2 * C.length < 100000)
    (hR : ∀ h' r, h <+: h' → h'[r]? = some (.lst ((surp A C).map fun p => .tup [hv p.1, .int p.2])) → R (.ref r) h') :
    Go (exs G B_surplus [some (.tup [.ref l1, .ref l2]), none, none, none, none, none] h) N B R := by
  have hs := sizeLine_eq
  unfold B_surplus
  rw [g_cons]
  simp only [g_nil, g_cons, g_asg, g_expr, g_ret, g_retN, g_pass, g_brk, g_ife, g_for, g_forB, g_whl, k_var, k_non, k_bl, k_int, k_str, k_op, k_neg, k_not, k_and, k_or, k_and1, k_and2, k_or1, k_or2, k_cmp, k_idx, k_slc, k_iN, k_iS, k_tup, k_lst, k_dic, k_call, k_bi, k_bm, k_isi, k_nil, k_cons, k_T, k_cN, k_cS, k_lc, k_lcT, k_val, k_rng1, k_rng2, k_enum, k_zip, k_nm, k_tpT, k_tsN, k_tsC, k_sub, ok_ok, List.getElem?_cons_zero, List.getElem?_cons_succ, List.set_cons_zero, List.set_cons_succ, Option.some.injEq, exists_eq_left', List.length_cons, List.length_nil, true_and, and_true, exists_eq_left, wipeP, ok_tup, lock_l, lock_t, unlock_l, unlock_t, all_l, all_t, src_t, bmT, bmV, on0, on1, on2, biV, idx_t0, idx_t1, idx_t2, neg_i, tr_b, add_i, sub_i, eq_i, ne_i, lt_i, le_i, gt_i, ge_i, eq_b, dict0, sizeLine_eq, Nat.reduceAdd, Nat.reduceLeDiff, Nat.zero_add, evens, odds, abs_i, max_i]
  have hp : h <+: h ++ [.dct [] 0] := List.prefix_append _ _
  have eL : ((h ++ [PO.dct [] 0]) ++ [PO.lst [.tup [.ref l1, .int 1], .tup [.ref l2, .int (-1)]]])[(h ++ [PO.dct [] 0]).length]? = some (.lst [.tup [.ref l1, .int 1], .tup [.ref l2, .int (-1)]]) := at_new
  refine ⟨_, src_l eL, ?_⟩
  simp only [all_l, lock_l]
  rw [g_loopC]
  refine ⟨ok_l eL, ?_⟩
  generalize hH : (h ++ [PO.dct [] 0] ++ [PO.lst [PV.tup [PV.ref l1, PV.int 1], PV.tup [PV.ref l2, PV.int (-1)]]]) = H0 at eL ⊢
  generalize hL : (h ++ [PO.dct [] 0]).length = L at eL ⊢
  have hLf : L ≠ h.length := by rw [← hL]; simp
  have p0 : h <+: H0 := by rw [← hH]; exact pre_app hp
  have f0 : H0[h.length]? = some (.dct (enT iv ([] : Tab)) 0) := by rw [← hH]; exact at_app at_new
  rw [g_forB]
  simp only [g_nil, g_cons, g_asg, g_expr, g_ret, g_retN, g_pass, g_brk, g_ife, k_var, k_non, k_bl, k_int, k_str, k_op, k_neg, k_not, k_and, k_or, k_and1, k_and2, k_or1, k_or2, k_cmp, k_idx, k_slc, k_iN, k_iS, k_tup, k_lst, k_dic, k_call, k_bi, k_bm, k_isi, k_nil, k_cons, k_T, k_cN, k_cS, k_val, k_rng1, k_rng2, k_enum, k_zip, k_nm, k_tpT, k_tsN, k_tsC, k_sub, ok_ok, List.getElem?_cons_zero, List.getElem?_cons_succ, List.set_cons_zero, List.set_cons_succ, Option.some.injEq, exists_eq_left', List.length_cons, List.length_nil, true_and, and_true, exists_eq_left, wipeP, ok_tup, lock_l, lock_t, unlock_l, unlock_t, all_l, all_t, src_t, bmT, bmV, on0, on1, on2, biV, idx_t0, idx_t1, idx_t2, neg_i, tr_b, add_i, sub_i, eq_i, ne_i, lt_i, le_i, gt_i, ge_i, eq_b, dict0, sizeLine_eq, Nat.reduceAdd, Nat.reduceLeDiff, Nat.zero_add, evens, odds, abs_i, max_i]
  refine surplus_face p0 h1 f0 (Nat.le_refl _) (by rw [hs]; simp; omega) fun H1 x4 x5 n1 o1 p1 f1 => ?_
  rw [g_loopC]
  refine ⟨ok_l (by rw [o1 L hLf]; exact eL), ?_⟩
  rw [g_forB]
  simp only [g_nil, g_cons, g_asg, g_expr, g_ret, g_retN, g_pass, g_brk, g_ife, k_var, k_non, k_bl, k_int, k_str, k_op, k_neg, k_not, k_and, k_or, k_and1, k_and2, k_or1, k_or2, k_cmp, k_idx, k_slc, k_iN, k_iS, k_tup, k_lst, k_dic, k_call, k_bi, k_bm, k_isi, k_nil, k_cons, k_T, k_cN, k_cS, k_val, k_rng1, k_rng2, k_enum, k_zip, k_nm, k_tpT, k_tsN, k_tsC, k_sub, ok_ok, List.getElem?_cons_zero, List.getElem?_cons_succ, List.set_cons_zero, List.set_cons_succ, Option.some.injEq, exists_eq_left', List.length_cons, List.length_nil, true_and, and_true, exists_eq_left, wipeP, ok_tup, lock_l, lock_t, unlock_l, unlock_t, all_l, all_t, src_t, bmT, bmV, on0, on1, on2, biV, idx_t0, idx_t1, idx_t2, neg_i, tr_b, add_i, sub_i, eq_i, ne_i, lt_i, le_i, gt_i, ge_i, eq_b, dict0, sizeLine_eq, Nat.reduceAdd, Nat.reduceLeDiff, Nat.zero_add, evens, odds, abs_i, max_i]
  refine surplus_face p1 h2 f1 (Nat.le_refl _) (by have := foldl_len 1 A []; rw [hs]; simp at this; omega) fun H2 y4 y5 n2 o2 p2 f2 => ?_
  rw [g_loopN]
  refine ⟨ok_l (by rw [o2 L hLf, o1 L hLf]; exact eL), ?_⟩
  simp only [g_nil, g_cons, g_asg, g_expr, g_ret, g_retN, g_pass, g_brk, g_ife, g_for, g_forB, g_whl, k_var, k_non, k_bl, k_int, k_str, k_op, k_neg, k_not, k_and, k_or, k_and1, k_and2, k_or1, k_or2, k_cmp, k_idx, k_slc, k_iN, k_iS, k_tup, k_lst, k_dic, k_call, k_bi, k_bm, k_isi, k_nil, k_cons, k_T, k_cN, k_cS, k_lc, k_lcT, k_val, k_rng1, k_rng2, k_enum, k_zip, k_nm, k_tpT, k_tsN, k_tsC, k_sub, ok_ok, List.getElem?_cons_zero, List.getElem?_cons_succ, List.set_cons_zero, List.set_cons_succ, Option.some.injEq, exists_eq_left', List.length_cons, List.length_nil, true_and, and_true, exists_eq_left, wipeP, ok_tup, lock_l, lock_t, unlock_l, unlock_t, all_l, all_t, src_t, bmT, bmV, on0, on1, on2, biV, idx_t0, idx_t1, idx_t2, neg_i, tr_b, add_i, sub_i, eq_i, ne_i, lt_i, le_i, gt_i, ge_i, eq_b, dict0, sizeLine_eq, Nat.reduceAdd, Nat.reduceLeDiff, Nat.zero_add, evens, odds, abs_i, max_i]
  have f3 : H2[h.length]? = some (.dct (enT iv (foundT A C)) 0) := f2
  have st := srt_d f3 (ys := (sortE ((foundT A C).map (·.1))).map hv) (by rw [keys_tab]; exact sortV_en H2 _)
  refine ⟨_, st, ?_⟩
  have e3 : (H2 ++ [PO.lst ((sortE ((foundT A C).map (·.1))).map hv)])[H2.length]? = some (.lst ((sortE ((foundT A C).map (·.1))).map hv)) := at_new
  refine ⟨_, src_l e3, ?_⟩
  simp only [all_l, lock_l]
  have f4 : (H2 ++ [PO.lst ((sortE ((foundT A C).map (·.1))).map hv)])[h.length]? = some (.dct (enT iv (foundT A C)) 0) := at_app f3
  generalize hH3 : H2 ++ [PO.lst ((sortE ((foundT A C).map (·.1))).map hv)] = H3 at e3 f4 ⊢
  have p3 : h <+: H3 := by rw [← hH3]; exact pre_app p2
  generalize hK : sortE ((foundT A C).map (·.1)) = ks at e3 ⊢
  have hmem : ∀ p ∈ ks, p ∈ (foundT A C).map (·.1) := fun p hp => by rw [← hK] at hp; exact (sortE_perm _).mem_iff.mp hp
  have hkl : ks.length < sizeLine := by
    rw [← hK, (sortE_perm _).length_eq, List.length_map]
    have a1 := foldl_len 1 A []
    have a2 := foldl_len (-1) C (A.foldl (bumpL 1) [])
    unfold foundT
    simp at a1
    omega
  refine lc_inv (s := .lst H2.length (ks.map hv)) (fun j acc hh => hh = H3 ∧ acc = ((ks.take j).filter fun p => decide ((aget (foundT A C) p).getD 0 ≠ 0)).map fun p => .tup [hv p, .int ((aget (foundT A C) p).getD 0)]) ⟨rfl, rfl⟩ ?_ ?_
  · rintro j x acc hh ex ⟨rfl, rfl⟩
    refine ⟨ok_l e3, ?_⟩
    have ex : (ks.map hv)[j]? = some x := ex
    rw [List.getElem?_map, Option.map_eq_some_iff] at ex
    obtain ⟨p, ep, rfl⟩ := ex
    have gp := idx_d f4 (fitK_en (f := iv) (m := foundT A C) (k := p)) (get_tab (hmem p (List.mem_of_getElem? ep)))
    have gp : idxV (.ref h.length) (hv p) hh = some (.int ((aget (foundT A C) p).getD 0), hh) := gp
    have hj : j < ks.length := (List.getElem?_eq_some_iff.mp ep).1
    simp only [g_nil, g_cons, g_asg, g_expr, g_ret, g_retN, g_pass, g_brk, g_ife, g_for, g_forB, g_whl, k_var, k_non, k_bl, k_int, k_str, k_op, k_neg, k_not, k_and, k_or, k_and1, k_and2, k_or1, k_or2, k_cmp, k_idx, k_slc, k_iN, k_iS, k_tup, k_lst, k_dic, k_call, k_bi, k_bm, k_isi, k_nil, k_cons, k_T, k_cN, k_cS, k_lc, k_lcT, k_val, k_rng1, k_rng2, k_enum, k_zip, k_nm, k_tpT, k_tsN, k_tsC, k_sub, ok_ok, List.getElem?_cons_zero, List.getElem?_cons_succ, List.set_cons_zero, List.set_cons_succ, Option.some.injEq, exists_eq_left', List.length_cons, List.length_nil, true_and, and_true, exists_eq_left, wipeP, ok_tup, lock_l, lock_t, unlock_l, unlock_t, all_l, all_t, src_t, bmT, bmV, on0, on1, on2, biV, idx_t0, idx_t1, idx_t2, neg_i, tr_b, add_i, sub_i, eq_i, ne_i, lt_i, le_i, gt_i, ge_i, eq_b, dict0, sizeLine_eq, Nat.reduceAdd, Nat.reduceLeDiff, Nat.zero_add, evens, odds, abs_i, max_i, gp]
    rw [List.take_add_one, ep, Option.toList_some, List.filter_append, List.map_append]
    by_cases hq : (aget (foundT A C) p).getD 0 = 0
    · simp [hq]
    · simp only [hq, decide_false, Bool.not_false, if_true, ne_eq, not_false_eq_true, decide_true, List.filter_cons, List.filter_nil, List.map_cons, List.map_nil]
      refine ⟨?_, by first | trivial | exact ⟨rfl, rfl⟩⟩
      rw [List.length_map]
      refine Nat.lt_of_le_of_lt (List.length_filter_le _ _) ?_
      rw [List.length_take]
      omega
  · rintro acc hh ⟨rfl, rfl⟩
    refine ⟨ok_l e3, ?_⟩
    have hlen : (Src.lst H2.length (ks.map hv)).all.length = ks.length := by simp [Src.all]
    rw [hlen, List.take_length, unlock_l]
    refine hR _ _ (pre_app p3) ?_
    have : surp A C = (ks.filter fun p => decide ((aget (foundT A C) p).getD 0 ≠ 0)).map fun p => (p, (aget (foundT A C) p).getD 0) := by unfold surp; rw [hK]
    rw [this, List.map_map]
    exact at_new

/-! ### groups -/
abbrev Grp := List (Hole × Unit)
def trU (_ : Unit) : PV := .bl true
def joinG (j g : Grp) : Grp := g.foldl (fun acc p => aput acc p.1 p.2) j
def touch (l : Line) (g : Grp) : Bool := (aget g l.1).isSome || (aget g l.2).isSome
def newG (l : Line) : Grp := aput (aput [] l.1 ()) l.2 ()
def stepG (gs : List Grp) (l : Line) : List Grp := gs.filter (fun g => !touch l g) ++ [(gs.filter (touch l)).foldl joinG (newG l)]
def groupsP (L : List Line) : List Grp := L.foldl stepG []
def B_groups : List S := [.asg (.nm 1) (.lst []),
  .for_ (.tp [.nm 2, .nm 3]) (.val (.var 0)) [.asg (.nm 4) (.dic [.var 2, .bl true, .var 3, .bl true]), .asg (.nm 5) (.lst []), .for_ (.nm 6) (.val (.var 1)) [.ife (.or [.cmp .isin (.var 2) (.var 6), .cmp .isin (.var 3) (.var 6)]) [.expr (.bm .update (.var 4) [.var 6])] [.expr (.bm .append (.var 5) [.var 6])]], .asg (.nm 1) (.op .add (.var 5) (.lst [.var 4]))],
  .ret (.var 1)]
theorem joinG_en (g : Grp) : ∀ j : Grp, dupd (enT trU j) (enT trU g) = enT trU (joinG j g) := by
  induction g with
  | nil => intro j; rfl
  | cons p r ih =>
    intro j
    show dupd (dput (enT trU j) (hv p.1) (trU p.2)) (enT trU r) = _
    rw [show dput (enT trU j) (hv p.1) (trU p.2) = enT trU (aput j p.1 p.2) from dput_en]
    exact ih _
theorem newG_en {h : PH} (l : Line) : dicV [hv l.1, hv l.2] [.bl true, .bl true] h = some (.ref h.length, h ++ [.dct (enT trU (newG l)) 0]) := by
  have e : dupd [] ([hv l.1, hv l.2].zip [.bl true, .bl true]) = enT trU (newG l) := by
    have e1 : dput (enT trU ([] : Grp)) (hv l.1) (trU ()) = enT trU (aput ([] : Grp) l.1 ()) := dput_en
    have e2 : dput (enT trU (aput ([] : Grp) l.1 ())) (hv l.2) (trU ()) = enT trU (newG l) := dput_en
    rw [← e2, ← e1]
    rfl
  unfold dicV
  rw [if_pos, e]
  refine ⟨?_, rfl, by simp, by simp [sameK, hv, tupK]⟩
  have h1 : okKey (hv l.1) = true := EnK.ok (α := Hole) l.1
  have h2 : okKey (hv l.2) = true := EnK.ok (α := Hole) l.2
  simp [h1, h2]
theorem newG_ne (l : Line) : newG l ≠ [] := by
  unfold newG
  intro z
  have h1 := congrArg (List.map (·.1)) z
  rw [aput_keys] at h1
  split at h1
  · rw [aput_keys] at h1; simp at h1
  · simp at h1
theorem newG_len (l : Line) : (newG l).length ≤ 2 := by
  have h1 := aput_len (m := aput ([] : Grp) l.1 ()) (k := l.2) (v := ())
  have h2 := aput_len (m := ([] : Grp)) (k := l.1) (v := ())
  unfold newG
  simp at h2
  omega
theorem aput_ne {m : Grp} {k : Hole} {v : Unit} (h : m ≠ []) : aput m k v ≠ [] := by
  intro z
  have h1 := congrArg (List.map (·.1)) z
  rw [aput_keys] at h1
  split at h1
  · simp at h1; exact h h1
  · simp at h1
theorem joinG_ne : ∀ (g j : Grp), j ≠ [] → joinG j g ≠ []
  | [], _, h => h
  | p :: r, j, h => joinG_ne r _ (aput_ne h)
theorem joinG_len : ∀ (g j : Grp), (joinG j g).length ≤ j.length + g.length
  | [], _ => by simp [joinG]
  | p :: r, j => by
    have h1 := joinG_len r (aput j p.1 p.2)
    have h2 := aput_len (m := j) (k := p.1) (v := p.2)
    show (joinG (aput j p.1 p.2) r).length ≤ _
    rw [List.length_cons]
    omega
def totG (gs : List Grp) : Nat := (gs.map List.length).sum
theorem totG_cons (g : Grp) (gs : List Grp) : totG (g :: gs) = g.length + totG gs := by simp [totG]
theorem totG_app (a b : List Grp) : totG (a ++ b) = totG a + totG b := by simp [totG]
theorem totG_split (p : Grp → Bool) : ∀ gs : List Grp, totG (gs.filter p) + totG (gs.filter fun g => !p g) = totG gs
  | [] => rfl
  | g :: gs => by
    have ih := totG_split p gs
    rw [List.filter_cons, List.filter_cons, totG_cons]
    cases p g with
    | true => simp only [if_true, Bool.not_true, Bool.false_eq_true, if_false, totG_cons]; omega
    | false => simp only [Bool.false_eq_true, if_false, Bool.not_false, if_true, totG_cons]; omega
theorem fold_len : ∀ (gs : List Grp) (j : Grp), (gs.foldl joinG j).length ≤ j.length + totG gs
  | [], j => by simp [totG]
  | g :: gs, j => by
    have h1 := fold_len gs (joinG j g)
    have h2 := joinG_len g j
    rw [List.foldl_cons, totG_cons]
    omega
theorem totG_step (gs : List Grp) (l : Line) : totG (stepG gs l) ≤ totG gs + 2 := by
  have h1 := totG_split (touch l) gs
  have h2 := fold_len (gs.filter (touch l)) (newG l)
  have h3 := newG_len l
  unfold stepG
  rw [totG_app, totG_cons]
  simp only [totG, List.map_nil, List.sum_nil] at *
  omega
theorem totG_take (p : Grp → Bool) (gs : List Grp) (j : Nat) : totG ((gs.take j).filter p) ≤ totG gs := by
  have h1 := totG_split p (gs.take j)
  have h2 : totG (gs.take j) + totG (gs.drop j) = totG gs := by rw [← totG_app, List.take_append_drop]
  omega
theorem totG_mem {g : Grp} {gs : List Grp} (h : g ∈ gs) : g.length ≤ totG gs := by
  induction gs with
  | nil => cases h
  | cons x r ih =>
    rw [totG_cons]
    rcases List.mem_cons.mp h with rfl | h
    · omega
    · have := ih h; omega
abbrev PG := Nat × Grp
/-- the groups' dicts stand -/
def HG (h : PH) (ps : List PG) : Prop := ∀ p ∈ ps, h[p.1]? = some (.dct (enT trU p.2) 0)
def refs (ps : List PG) : List PV := ps.map fun p => .ref p.1
theorem in_grp {h : PH} {r : Nat} {g : Grp} (e : h[r]? = some (.dct (enT trU g) 0)) (p : Hole) : cmpO .isin (hv p) (.ref r) h = some (aget g p).isSome := by
  have f : fitK (enT trU g) (hv p) = true := fitK_en (k := p)
  rw [in_d e f, show dget (enT trU g) (hv p) = (aget g p).map trU from dget_en, Option.isSome_map]
theorem upd_grp {h : PH} {r s : Nat} {g j : Grp} (e : h[r]? = some (.dct (enT trU j) 0)) (e2 : h[s]? = some (.dct (enT trU g) 0)) (n : r ≠ s) (hj : j ≠ []) (z : j.length + g.length ≤ sizeLine) : updateV (.ref r) (.ref s) h = some (.non, h.set r (.dct (enT trU (joinG j g)) 0)) := by
  have hall : ∀ g : Grp, ((enT trU g).all fun p => tupK p.1) = true := fun g => by
    unfold enT
    rw [List.all_map, List.all_eq_true]
    intro p _
    rfl
  have hne : enT trU j ≠ [] := by unfold enT; simpa using hj
  have hlen : (enT trU j).length + (enT trU g).length ≤ sizeLine := by unfold enT; rw [List.length_map, List.length_map]; exact z
  unfold updateV
  simp only [e, e2]
  rw [if_pos ⟨n, hne, hlen, hall j, hall g⟩, joinG_en]
theorem groups_turn {G : Env} {N B : Sto → PH → Prop} {R : PV → PH → Prop} {h H0 : PH} {x6 : Option PV} {l0 gl jt ap : Nat} {ps : List PG} {l : Line} (hp : h <+: H0) (hg : H0[gl]? = some (.lst (refs ps))) (hps : HG H0 ps) (hj : H0[jt]? = some (.dct (enT trU (newG l)) 0)) (ha : H0[ap]? = some (.lst [])) (hja : jt ≠ ap) (hjg : jt ≠ gl) (hag : ap ≠ gl)
    (hjp : ∀ p ∈ ps, p.1 ≠ jt ∧ p.1 ≠ ap) (hz : totG (ps.map (·.2)) < 1000000) (hzl : ps.length < 1000000) (j0 : h.length ≤ jt) (a0 : h.length ≤ ap)
    (hN : ∀ hh x6, hh.length = H0.length → h <+: hh → (∀ i, i ≠ jt → i ≠ ap → hh[i]? = H0[i]?) → hh[jt]? = some (.dct (enT trU (((ps.map (·.2)).filter (touch l)).foldl joinG (newG l))) 0) → hh[ap]? = some (.lst (refs (ps.filter fun p => !touch l p.2))) →
      N [some (.ref l0), some (.ref gl), some (hv l.1), some (hv l.2), some (.ref jt), some (.ref ap), x6] hh) :
    Go (ex G (.for_ (.nm 6) (.val (.var 1)) [.ife (.or [.cmp .isin (.var 2) (.var 6), .cmp .isin (.var 3) (.var 6)]) [.expr (.bm .update (.var 4) [.var 6])] [.expr (.bm .append (.var 5) [.var 6])]]) [some (.ref l0), some (.ref gl), some (hv l.1), some (hv l.2), some (.ref jt), some (.ref ap), x6] H0) N B R := by
  have hs := sizeLine_eq
  rw [g_for]
  simp only [g_nil, g_cons, g_asg, g_expr, g_ret, g_retN, g_pass, g_brk, g_ife, k_var, k_non, k_bl, k_int, k_str, k_op, k_neg, k_not, k_and, k_or, k_and1, k_and2, k_or1, k_or2, k_cmp, k_idx, k_slc, k_iN, k_iS, k_tup, k_lst, k_dic, k_call, k_bi, k_bm, k_isi, k_nil, k_cons, k_T, k_cN, k_cS, k_val, k_rng1, k_rng2, k_enum, k_zip, k_nm, k_tpT, k_tsN, k_tsC, k_sub, ok_ok, List.getElem?_cons_zero, List.getElem?_cons_succ, List.set_cons_zero, List.set_cons_succ, Option.some.injEq, exists_eq_left', List.length_cons, List.length_nil, true_and, and_true, exists_eq_left, wipeP, ok_tup, lock_l, lock_t, unlock_l, unlock_t, all_l, all_t, src_t, bmT, bmV, on0, on1, on2, biV, idx_t0, idx_t1, idx_t2, neg_i, tr_b, add_i, sub_i, eq_i, ne_i, lt_i, le_i, gt_i, ge_i, eq_b, dict0, sizeLine_eq, Nat.reduceAdd, Nat.reduceLeDiff, Nat.zero_add, evens, odds, abs_i, max_i, src_l hg]
  refine for_inv (s := .lst gl (refs ps)) (fun j σ hh => ∃ x6, σ = [some (.ref l0), some (.ref gl), some (hv l.1), some (hv l.2), some (.ref jt), some (.ref ap), x6] ∧ hh.length = H0.length ∧ h <+: hh ∧ (∀ i, i ≠ jt → i ≠ ap → hh[i]? = H0[i]?) ∧
    hh[jt]? = some (.dct (enT trU ((((ps.take j).map (·.2)).filter (touch l)).foldl joinG (newG l))) 0) ∧ hh[ap]? = some (.lst (refs ((ps.take j).filter fun p => !touch l p.2)))) ⟨x6, rfl, rfl, hp, fun _ _ _ => rfl, hj, ha⟩ ?_ ?_
  · rintro j x σ hh ex ⟨y6, rfl, e1, e2, e3, e4, e5⟩
    have eg : hh[gl]? = some (.lst (refs ps)) := by rw [e3 gl (Ne.symm hjg) (Ne.symm hag)]; exact hg
    refine ⟨ok_l eg, ?_⟩
    have ex : (refs ps)[j]? = some x := ex
    unfold refs at ex
    rw [List.getElem?_map, Option.map_eq_some_iff] at ex
    obtain ⟨p, ep, rfl⟩ := ex
    have mp := List.mem_of_getElem? ep
    obtain ⟨n1, n2⟩ := hjp p mp
    have ed : hh[p.1]? = some (.dct (enT trU p.2) 0) := by rw [e3 p.1 n1 n2]; exact hps p mp
    have hjl : j < ps.length := (List.getElem?_eq_some_iff.mp ep).1
    have tk : ps.take (j + 1) = ps.take j ++ [p] := by rw [List.take_add_one, ep]; rfl
    rw [tk]
    simp only [List.map_append, List.map_cons, List.map_nil, List.filter_append, List.foldl_append, List.filter_cons, List.filter_nil]
    have jl := fold_len (((ps.take j).map (·.2)).filter (touch l)) (newG l)
    have jl2 : totG (((ps.take j).map (·.2)).filter (touch l)) ≤ totG (ps.map (·.2)) := by rw [List.map_take] ; exact totG_take _ _ _
    have jl3 := newG_len l
    have jl4 := totG_mem (List.mem_map.mpr ⟨p, mp, rfl⟩ : p.2 ∈ ps.map (·.2))
    have jn : ∀ (gs : List Grp) (j : Grp), j ≠ [] → gs.foldl joinG j ≠ [] := by
      intro gs
      induction gs with
      | nil => intro j h; exact h
      | cons g r ih => intro j h; exact ih _ (joinG_ne g j h)
    have hup := upd_grp e4 ed (Ne.symm n1) (jn _ _ (newG_ne l)) (by omega)
    have hap := app_l (v := .ref p.1) e5 (by
      unfold refs
      rw [List.length_map]
      have := List.length_filter_le (fun p : PG => !touch l p.2) (ps.take j)
      rw [List.length_take] at this
      omega)
    rw [g_forB]
    simp only [g_nil, g_cons, g_asg, g_expr, g_ret, g_retN, g_pass, g_brk, g_ife, k_var, k_non, k_bl, k_int, k_str, k_op, k_neg, k_not, k_and, k_or, k_and1, k_and2, k_or1, k_or2, k_cmp, k_idx, k_slc, k_iN, k_iS, k_tup, k_lst, k_dic, k_call, k_bi, k_bm, k_isi, k_nil, k_cons, k_T, k_cN, k_cS, k_val, k_rng1, k_rng2, k_enum, k_zip, k_nm, k_tpT, k_tsN, k_tsC, k_sub, ok_ok, List.getElem?_cons_zero, List.getElem?_cons_succ, List.set_cons_zero, List.set_cons_succ, Option.some.injEq, exists_eq_left', List.length_cons, List.length_nil, true_and, and_true, exists_eq_left, wipeP, ok_tup, lock_l, lock_t, unlock_l, unlock_t, all_l, all_t, src_t, bmT, bmV, on0, on1, on2, biV, idx_t0, idx_t1, idx_t2, neg_i, tr_b, add_i, sub_i, eq_i, ne_i, lt_i, le_i, gt_i, ge_i, eq_b, dict0, sizeLine_eq, Nat.reduceAdd, Nat.reduceLeDiff, Nat.zero_add, evens, odds, abs_i, max_i, in_grp ed]

    have tc : touch l p.2 = ((aget p.2 l.1).isSome || (aget p.2 l.2).isSome) := rfl
    rw [tc]
    cases a : (aget p.2 l.1).isSome <;> cases b : (aget p.2 l.2).isSome <;> simp only [if_true, if_false, Bool.false_eq_true, Bool.or_true, Bool.true_or, Bool.or_false, Bool.not_true, Bool.not_false, List.append_nil, List.foldl_nil, List.foldl_cons, hup, hap, Option.some.injEq, exists_eq_left']
    · refine ⟨ty_l e5, _, rfl, by rw [List.length_set]; exact e1, pre_set e2 a0, fun i h1 h2 => ?_, ?_, ?_⟩
      · rw [List.getElem?_set_ne (Ne.symm h2)]; exact e3 i h1 h2
      · exact at_set_ne (Ne.symm hja) e4
      · rw [at_set e5]
        unfold refs
        rw [List.map_append]
        rfl
    all_goals
      refine ⟨ty_d e4, _, rfl, by rw [List.length_set]; exact e1, pre_set e2 j0, fun i h1 h2 => ?_, at_set e4, at_set_ne hja e5⟩
      rw [List.getElem?_set_ne (Ne.symm h1)]; exact e3 i h1 h2
  · rintro σ hh ⟨y6, rfl, e1, e2, e3, e4, e5⟩
    have eg : hh[gl]? = some (.lst (refs ps)) := by rw [e3 gl (Ne.symm hjg) (Ne.symm hag)]; exact hg
    refine ⟨ok_l eg, ?_⟩
    have hlen : (Src.lst gl (refs ps)).all.length = ps.length := by simp [Src.all, refs]
    rw [hlen, List.take_length] at e4 e5
    rw [unlock_l]
    exact hN hh y6 e1 e2 e3 e4 e5
theorem stepG_len (gs : List Grp) (l : Line) : (stepG gs l).length ≤ gs.length + 1 := by
  unfold stepG
  rw [List.length_append]
  have := List.length_filter_le (fun g => !touch l g) gs
  simp
  omega
theorem groupsP_snoc {L : List Line} {j : Nat} {l : Line} (e : L[j]? = some l) : groupsP (L.take (j + 1)) = stepG (groupsP (L.take j)) l := by
  unfold groupsP
  rw [List.take_add_one, e, Option.toList_some, List.foldl_append]
  rfl
theorem groupsP_tot (L : List Line) : ∀ gs : List Grp, totG (L.foldl stepG gs) ≤ totG gs + 2 * L.length ∧ (L.foldl stepG gs).length ≤ gs.length + L.length := by
  induction L with
  | nil => intro gs; simp
  | cons l r ih =>
    intro gs
    obtain ⟨a, b⟩ := ih (stepG gs l)
    have c := totG_step gs l
    have d := stepG_len gs l
    rw [List.foldl_cons, List.length_cons]
    omega
theorem groups_ok {G : Env} {N B : Sto → PH → Prop} {R : PV → PH → Prop} {h : PH} {l0 : Nat} {L : List Line} (h0 : h[l0]? = some (.lst (L.map lv))) (hz : L.length < 100000)
    (hR : ∀ hh gl ps, h <+: hh → hh[gl]? = some (.lst (refs ps)) → HG hh ps → ps.map (·.2) = groupsP L → R (.ref gl) hh) :
    Go (exs G B_groups [some (.ref l0), none, none, none, none, none, none] h) N B R := by
  have hs := sizeLine_eq
  unfold B_groups
  rw [g_cons]
  simp only [g_nil, g_cons, g_asg, g_expr, g_ret, g_retN, g_pass, g_brk, g_ife, k_var, k_non, k_bl, k_int, k_str, k_op, k_neg, k_not, k_and, k_or, k_and1, k_and2, k_or1, k_or2, k_cmp, k_idx, k_slc, k_iN, k_iS, k_tup, k_lst, k_dic, k_call, k_bi, k_bm, k_isi, k_nil, k_cons, k_T, k_cN, k_cS, k_val, k_rng1, k_rng2, k_enum, k_zip, k_nm, k_tpT, k_tsN, k_tsC, k_sub, ok_ok, List.getElem?_cons_zero, List.getElem?_cons_succ, List.set_cons_zero, List.set_cons_succ, Option.some.injEq, exists_eq_left', List.length_cons, List.length_nil, true_and, and_true, exists_eq_left, wipeP, ok_tup, lock_l, lock_t, unlock_l, unlock_t, all_l, all_t, src_t, bmT, bmV, on0, on1, on2, biV, idx_t0, idx_t1, idx_t2, neg_i, tr_b, add_i, sub_i, eq_i, ne_i, lt_i, le_i, gt_i, ge_i, eq_b, dict0, sizeLine_eq, Nat.reduceAdd, Nat.reduceLeDiff, Nat.zero_add, evens, odds, abs_i, max_i]
  rw [g_for]
  simp only [g_nil, g_cons, g_asg, g_expr, g_ret, g_retN, g_pass, g_brk, g_ife, k_var, k_non, k_bl, k_int, k_str, k_op, k_neg, k_not, k_and, k_or, k_and1, k_and2, k_or1, k_or2, k_cmp, k_idx, k_slc, k_iN, k_iS, k_tup, k_lst, k_dic, k_call, k_bi, k_bm, k_isi, k_nil, k_cons, k_T, k_cN, k_cS, k_val, k_rng1, k_rng2, k_enum, k_zip, k_nm, k_tpT, k_tsN, k_tsC, k_sub, ok_ok, List.getElem?_cons_zero, List.getElem?_cons_succ, List.set_cons_zero, List.set_cons_succ, Option.some.injEq, exists_eq_left', List.length_cons, List.length_nil, true_and, and_true, exists_eq_left, wipeP, ok_tup, lock_l, lock_t, unlock_l, unlock_t, all_l, all_t, src_t, bmT, bmV, on0, on1, on2, biV, idx_t0, idx_t1, idx_t2, neg_i, tr_b, add_i, sub_i, eq_i, ne_i, lt_i, le_i, gt_i, ge_i, eq_b, dict0, sizeLine_eq, Nat.reduceAdd, Nat.reduceLeDiff, Nat.zero_add, evens, odds, abs_i, max_i, src_l (pre_at (List.prefix_append h [PO.lst []]) h0)]
  refine for_inv (s := .lst l0 (L.map lv)) (fun j σ hh => ∃ gl ps x2 x3 x4 x5 x6, σ = [some (.ref l0), some (.ref gl), x2, x3, x4, x5, x6] ∧ h <+: hh ∧ hh[gl]? = some (.lst (refs ps)) ∧ HG hh ps ∧ ps.map (·.2) = groupsP (L.take j)) ?_ ?_ ?_
  · exact ⟨_, [], _, _, _, _, _, rfl, List.prefix_append _ _, at_new, fun p hp => by simp at hp, rfl⟩
  · rintro j x σ hh ex ⟨gl, ps, x2, x3, x4, x5, x6, rfl, e1, e2, e3, e4⟩
    refine ⟨ok_l (pre_at e1 h0), ?_⟩
    have ex : (L.map lv)[j]? = some x := ex
    rw [List.getElem?_map, Option.map_eq_some_iff] at ex
    obtain ⟨l, el, rfl⟩ := ex
    have hj : j < L.length := (List.getElem?_eq_some_iff.mp el).1
    have tot := groupsP_tot (L.take j) []
    rw [show (L.take j).foldl stepG [] = groupsP (L.take j) from rfl, ← e4, List.length_map] at tot
    have tl : (L.take j).length ≤ L.length := by rw [List.length_take]; omega
    have t0 : totG [] = 0 := rfl
    have t1 : ([] : List Grp).length = 0 := rfl
    rw [g_forB]
    simp only [g_nil, g_cons, g_asg, g_expr, g_ret, g_retN, g_pass, g_brk, g_ife, k_var, k_non, k_bl, k_int, k_str, k_op, k_neg, k_not, k_and, k_or, k_and1, k_and2, k_or1, k_or2, k_cmp, k_idx, k_slc, k_iN, k_iS, k_tup, k_lst, k_dic, k_call, k_bi, k_bm, k_isi, k_nil, k_cons, k_T, k_cN, k_cS, k_val, k_rng1, k_rng2, k_enum, k_zip, k_nm, k_tpT, k_tsN, k_tsC, k_sub, ok_ok, List.getElem?_cons_zero, List.getElem?_cons_succ, List.set_cons_zero, List.set_cons_succ, Option.some.injEq, exists_eq_left', List.length_cons, List.length_nil, true_and, and_true, exists_eq_left, wipeP, ok_tup, lock_l, lock_t, unlock_l, unlock_t, all_l, all_t, src_t, bmT, bmV, on0, on1, on2, biV, idx_t0, idx_t1, idx_t2, neg_i, tr_b, add_i, sub_i, eq_i, ne_i, lt_i, le_i, gt_i, ge_i, eq_b, dict0, sizeLine_eq, Nat.reduceAdd, Nat.reduceLeDiff, Nat.zero_add, evens, odds, abs_i, max_i, lv, newG_en]
    have glh := at_lt e2
    have pl : ∀ p ∈ ps, p.1 < hh.length := fun p hp => at_lt (e3 p hp)
    have q1 : hh <+: (hh ++ [PO.dct (enT trU (newG l)) 0]) ++ [PO.lst []] := pre_app (List.prefix_append _ _)
    refine groups_turn (h := h) (H0 := (hh ++ [PO.dct (enT trU (newG l)) 0]) ++ [PO.lst []]) (x6 := x6) (l0 := l0) (gl := gl) (jt := hh.length) (ap := (hh ++ [PO.dct (enT trU (newG l)) 0]).length) (ps := ps) (l := l) (e1.trans q1) (pre_at q1 e2) (fun p hp => pre_at q1 (e3 p hp)) (at_app at_new) at_new (by simp) (by omega) (by simp; omega) (fun p hp => by have := pl p hp; simp; omega) (by omega) (by omega) (e1.length_le) (by have := e1.length_le; simp; omega) ?_
    intro h2 y6 n1 n2 n3 n4 n5
    simp only [g_nil, g_cons, g_asg, g_expr, g_ret, g_retN, g_pass, g_brk, g_ife, k_var, k_non, k_bl, k_int, k_str, k_op, k_neg, k_not, k_and, k_or, k_and1, k_and2, k_or1, k_or2, k_cmp, k_idx, k_slc, k_iN, k_iS, k_tup, k_lst, k_dic, k_call, k_bi, k_bm, k_isi, k_nil, k_cons, k_T, k_cN, k_cS, k_val, k_rng1, k_rng2, k_enum, k_zip, k_nm, k_tpT, k_tsN, k_tsC, k_sub, ok_ok, List.getElem?_cons_zero, List.getElem?_cons_succ, List.set_cons_zero, List.set_cons_succ, Option.some.injEq, exists_eq_left', List.length_cons, List.length_nil, true_and, and_true, exists_eq_left, wipeP, ok_tup, lock_l, lock_t, unlock_l, unlock_t, all_l, all_t, src_t, bmT, bmV, on0, on1, on2, biV, idx_t0, idx_t1, idx_t2, neg_i, tr_b, add_i, sub_i, eq_i, ne_i, lt_i, le_i, gt_i, ge_i, eq_b, dict0, sizeLine_eq, Nat.reduceAdd, Nat.reduceLeDiff, Nat.zero_add, evens, odds, abs_i, max_i]
    have ln : (refs (ps.filter fun p => !touch l p.2)).length ≤ ps.length := by unfold refs; rw [List.length_map]; exact List.length_filter_le _ _
    have ct := cat_l (at_app (t := [PO.lst [.ref hh.length]]) n5) (at_new (h := h2) (o := PO.lst [PV.ref hh.length]) (t := [])) (by simp; omega)
    simp only [ct, Option.some.injEq, exists_eq_left']
    refine ⟨_, (ps.filter fun p => !touch l p.2) ++ [(hh.length, ((ps.map (·.2)).filter (touch l)).foldl joinG (newG l))], _, _, _, _, _, rfl, pre_app (pre_app n2), ?_, ?_, ?_⟩
    · rw [at_new]
      unfold refs
      rw [List.map_append]
      rfl
    · intro p hp
      refine at_app (at_app ?_)
      rcases List.mem_append.mp hp with hp | hp
      · have hp := (List.mem_filter.mp hp).1
        have := pl p hp
        rw [n3 p.1 (by omega) (by simp; omega)]
        exact pre_at q1 (e3 p hp)
      · rw [List.mem_singleton] at hp
        rw [hp]
        exact n4
    · rw [groupsP_snoc el, ← e4]
      unfold stepG
      rw [List.map_append, List.filter_map, List.filter_map]
      rfl
  · rintro σ hh ⟨gl, ps, x2, x3, x4, x5, x6, rfl, e1, e2, e3, e4⟩
    refine ⟨ok_l (pre_at e1 h0), ?_⟩
    have hlen : (Src.lst l0 (L.map lv)).all.length = L.length := by simp [Src.all]
    rw [hlen, List.take_length] at e4
    rw [unlock_l]
    simp only [g_nil, g_cons, g_asg, g_expr, g_ret, g_retN, g_pass, g_brk, g_ife, k_var, k_non, k_bl, k_int, k_str, k_op, k_neg, k_not, k_and, k_or, k_and1, k_and2, k_or1, k_or2, k_cmp, k_idx, k_slc, k_iN, k_iS, k_tup, k_lst, k_dic, k_call, k_bi, k_bm, k_isi, k_nil, k_cons, k_T, k_cN, k_cS, k_val, k_rng1, k_rng2, k_enum, k_zip, k_nm, k_tpT, k_tsN, k_tsC, k_sub, ok_ok, List.getElem?_cons_zero, List.getElem?_cons_succ, List.set_cons_zero, List.set_cons_succ, Option.some.injEq, exists_eq_left', List.length_cons, List.length_nil, true_and, and_true, exists_eq_left, wipeP, ok_tup, lock_l, lock_t, unlock_l, unlock_t, all_l, all_t, src_t, bmT, bmV, on0, on1, on2, biV, idx_t0, idx_t1, idx_t2, neg_i, tr_b, add_i, sub_i, eq_i, ne_i, lt_i, le_i, gt_i, ge_i, eq_b, dict0, sizeLine_eq, Nat.reduceAdd, Nat.reduceLeDiff, Nat.zero_add, evens, odds, abs_i, max_i]
    exact hR hh gl ps e1 e2 e3 e4
end Z
end

section
set_option Elab.async false
set_option linter.all false
set_option maxRecDepth 100000
set_option autoImplicit false
set_option maxHeartbeats 2000000
/-! P2: pieces and need, walked. -/
namespace Z
open PySem L2
open En

theorem mergeSort_congr {α : Type} {r s : α → α → Bool} (l : List α) (h : ∀ a ∈ l, ∀ b ∈ l, r a b = s a b) : l.mergeSort r = l.mergeSort s := by
  have := List.map_mergeSort (r := r) (s := s) (f := id) (l := l) (fun a ha b hb => h a ha b hb)
  simpa using this
/-! ### the least hole of a group -/
def lessH (a b : Hole) : Bool := PySem.W.dataLt (hd a) (hd b)
def leastH : List Hole → Hole
  | [] => (0, 0)
  | x :: r => r.foldl (fun m q => if lessH q m then q else m) x
theorem minV_en (h : PH) (x : Hole) (r : List Hole) : minV h ((x :: r).map hv) = some (hv (leastH (x :: r))) := by
  unfold minV
  have e1 : optAll (((x :: r).map hv).map (dd h)) = some ((x :: r).map hd) := dds_en h (x :: r)
  rw [e1]
  dsimp only
  have e2 : (alikeAllB ((x :: r).map hd) && sortableB ((x :: r).map hd)) = true := fit_en (x :: r)
  rw [if_pos e2]
  have e3 : ((x :: r).map hv).zip ((x :: r).map hd) = (x :: r).map fun a => (hv a, hd a) := by
    generalize x :: r = l
    induction l with
    | nil => rfl
    | cons x r ih => rw [List.map_cons, List.map_cons, List.zip_cons_cons, ih]; rfl
  rw [e3, List.map_cons]
  unfold leastBy
  rw [Option.map_some]
  congr 1
  have : ∀ (r : List Hole) (x : Hole), ((r.map fun a => (hv a, hd a)).foldl (fun m q => if PySem.W.dataLt q.2 m.2 = true then q else m) (hv x, hd x)) = (hv (r.foldl (fun m q => if lessH q m then q else m) x), hd (r.foldl (fun m q => if lessH q m then q else m) x)) := by
    intro r
    induction r with
    | nil => intro x; rfl
    | cons y r ih =>
      intro x
      rw [List.map_cons, List.foldl_cons, List.foldl_cons, ← ih]
      congr 1
      show (if PySem.W.dataLt (hd y) (hd x) = true then _ else _) = _
      unfold lessH
      split <;> rfl
  rw [this]
  rfl
def keyG (g : Grp) : Hole := leastH (g.map (·.1))
def sortG (gs : List Grp) : List Grp := gs.mergeSort fun a b => !lessH (keyG b) (keyG a)
def sortP (ps : List PG) : List PG := ps.mergeSort fun a b => !lessH (keyG b.2) (keyG a.2)
theorem sortP_snd (ps : List PG) : (sortP ps).map (·.2) = sortG (ps.map (·.2)) := List.map_mergeSort (fun a _ b _ => rfl)
theorem optAll_mp {α β : Type} {f : α → Option β} {g : α → β} : ∀ {l : List α}, (∀ a ∈ l, f a = some (g a)) → optAll (l.map f) = some (l.map g)
  | [], _ => rfl
  | a :: r, h => by rw [List.map_cons, h a List.mem_cons_self, optAll, optAll_mp fun b hb => h b (List.mem_cons_of_mem _ hb)]; rfl
theorem keys_grp (g : Grp) : (enT trU g).map (·.1) = (g.map (·.1)).map hv := by
  unfold enT
  rw [List.map_map, List.map_map]
  rfl
theorem sortedMin_grp {h : PH} {gl : Nat} {ps : List PG} (hg : h[gl]? = some (.lst (refs ps))) (H : HG h ps) (ne : ∀ p ∈ ps, p.2 ≠ []) : sortedMinV (.ref gl) h = some (.ref h.length, h ++ [.lst (refs (sortP ps))]) := by
  unfold sortedMinV
  rw [if_pos (isl_l hg), seq_l hg]
  dsimp only
  have e1 : optAll ((refs ps).map fun x => (seqV x h).bind (minV h)) = some (ps.map fun p => hv (keyG p.2)) := by
    unfold refs
    rw [List.map_map]
    refine optAll_mp fun p hp => ?_
    show (seqV (.ref p.1) h).bind (minV h) = _
    rw [seq_d (H p hp), keys_grp]
    show minV h _ = _
    cases e : p.2 with
    | nil => exact absurd e (ne p hp)
    | cons y r => exact minV_en h y.1 (r.map (·.1))
  rw [e1]
  dsimp only
  have e2 : optAll ((ps.map fun p => hv (keyG p.2)).map (dd h)) = some (ps.map fun p => hd (keyG p.2)) := by
    rw [List.map_map]
    exact optAll_mp fun p _ => EnS.dd_en h (keyG p.2)
  rw [e2]
  dsimp only
  have e3 : ((ps.map fun p => hv (keyG p.2)).all okKey && (alikeAllB (ps.map fun p => hd (keyG p.2)) && sortableB (ps.map fun p => hd (keyG p.2)))) = true := by
    have f := fit_en (ps.map fun p => keyG p.2)
    rw [List.map_map] at f
    rw [Bool.and_eq_true]
    refine ⟨?_, f⟩
    rw [List.all_map, List.all_eq_true]
    intro p _
    exact EnK.ok (α := Hole) _
  rw [if_pos e3]
  have e4 : (refs ps).zip (ps.map fun p => hd (keyG p.2)) = ps.map fun p => (PV.ref p.1, hd (keyG p.2)) := by
    unfold refs
    induction ps with
    | nil => rfl
    | cons x r ih =>
      rw [List.map_cons, List.map_cons, List.zip_cons_cons]
      rw [List.map_cons]
      congr 1
      clear ih e1 e2 e3 hg H ne
      induction r with
      | nil => rfl
      | cons x r ih => rw [List.map_cons, List.map_cons, List.zip_cons_cons, ih]; rfl
  unfold sortBy
  rw [e4, ← List.map_mergeSort (r := fun a b : PG => !lessH (keyG b.2) (keyG a.2)) (f := fun p : PG => (PV.ref p.1, hd (keyG p.2))) (fun a _ b _ => rfl), List.map_map]
  rfl
/-! ### heaps that keep all but one place -/
def Same (f : Nat) (H hh : PH) : Prop := ∀ i o, i ≠ f → H[i]? = some o → hh[i]? = some o
theorem same_refl {f : Nat} {H : PH} : Same f H H := fun _ _ _ e => e
theorem same_app {f : Nat} {H hh t : PH} (s : Same f H hh) : Same f H (hh ++ t) := fun i o n e => at_app (s i o n e)
theorem same_pre {f : Nat} {H h1 h2 : PH} (s : Same f H h1) (p : h1 <+: h2) : Same f H h2 := fun i o n e => pre_at p (s i o n e)
theorem same_set {f : Nat} {H hh : PH} {o : PO} (s : Same f H hh) : Same f H (hh.set f o) := fun i u n e => at_set_ne (Ne.symm n) (s i u n e)
theorem same_trans {f : Nat} {A B C : PH} (s : Same f A B) (t : Same f B C) : Same f A C := fun i o n e => t i o n (s i o n e)
/-! ### the groups have holes -/
theorem groups_ne (L : List Line) : ∀ gs : List Grp, (∀ g ∈ gs, g ≠ []) → ∀ g ∈ L.foldl stepG gs, g ≠ [] := by
  induction L with
  | nil => intro gs h; exact h
  | cons l r ih =>
    intro gs h
    refine ih _ fun g hg => ?_
    unfold stepG at hg
    rcases List.mem_append.mp hg with hg | hg
    · exact h g (List.mem_filter.mp hg).1
    · rw [List.mem_singleton] at hg
      rw [hg]
      have jn : ∀ (gs : List Grp) (j : Grp), j ≠ [] → gs.foldl joinG j ≠ [] := by
        intro gs
        induction gs with
        | nil => intro j h; exact h
        | cons g r ih => intro j h; exact ih _ (joinG_ne g j h)
      exact jn _ _ (newG_ne l)
/-! ### what is called -/
def SpecGroups (G : Env) (fi : Nat) : Prop := ∀ (h : PH) (l0 : Nat) (L : List Line) (Q : PV → PH → Prop), h[l0]? = some (.lst (L.map lv)) → L.length < 100000 →
  (∀ hh gl ps, h <+: hh → hh[gl]? = some (.lst (refs ps)) → HG hh ps → ps.map (·.2) = groupsP L → Q (.ref gl) hh) → Ok (G.call fi [.ref l0] h) Q
def SpecSurplus (G : Env) (fi : Nat) : Prop := ∀ (h : PH) (l1 l2 : Nat) (A C : List Line) (Q : PV → PH → Prop), h[l1]? = some (.lst (A.map lv)) → h[l2]? = some (.lst (C.map lv)) → 2 * A.length + 2 * C.length < 100000 →
  (∀ h' r, h <+: h' → h'[r]? = some (.lst ((surp A C).map fun p => .tup [hv p.1, .int p.2])) → Q (.ref r) h') → Ok (G.call fi [.tup [.ref l1, .ref l2]] h) Q
def inG (g : Grp) (l : Line) : Bool := (aget g l.1).isSome
abbrev PT := (Nat × Nat) × Grp
def prefs (ts : List PT) : List PV := ts.map fun t => .tup [.ref t.1.1, .ref t.1.2]
def HP (A C : List Line) (h : PH) (ts : List PT) : Prop := ∀ t ∈ ts, h[t.1.1]? = some (.lst ((A.filter (inG t.2)).map lv)) ∧ h[t.1.2]? = some (.lst ((C.filter (inG t.2)).map lv))
def SpecPieces (G : Env) (fi : Nat) : Prop := ∀ (h : PH) (l1 l2 : Nat) (A C : List Line) (Q : PV → PH → Prop), h[l1]? = some (.lst (A.map lv)) → h[l2]? = some (.lst (C.map lv)) → A.length + C.length < 40000 →
  (∀ h' r ts, h <+: h' → h'[r]? = some (.lst (prefs ts)) → HP A C h' ts → ts.map (·.2) = sortG (groupsP (A ++ C)) → Q (.ref r) h') → Ok (G.call fi [.tup [.ref l1, .ref l2]] h) Q
/-- the lines of a face whose first end a group holds -/
theorem part_ok {G : Env} {Q : PV → PH → Prop} {σ : Sto} {hh : PH} {l r v : Nat} {A : List Line} {g : Grp} (hl : hh[l]? = some (.lst (A.map lv))) (hg : hh[r]? = some (.dct (enT trU g) 0)) (hA : A.length < 100000)
    (hv' : σ[v]? = some (some (.ref l))) (h4 : ∀ u w, (wipeP σ [5]).set 5 (some w) = u → u[4]? = some (some (.ref r)) ∧ u[5]? = some (some w)) (hQ : Q (.ref hh.length) (hh ++ [.lst ((A.filter (inG g)).map lv)])) :
    Ok (ev G (.lc (.nm 5) (.val (.var v)) (some (.cmp .isin (.idx (.var 5) (.int 0)) (.var 4))) (.var 5) [5]) σ hh) Q := by
  have hs := sizeLine_eq
  rw [k_lc, k_val, k_var]
  refine ⟨_, hv', _, src_l hl, ?_⟩
  simp only [all_l, lock_l]
  refine lc_inv (s := .lst l (A.map lv)) (fun j acc h2 => h2 = hh ∧ acc = ((A.take j).filter (inG g)).map lv) ⟨rfl, rfl⟩ ?_ ?_
  · rintro j x acc h2 ex ⟨rfl, rfl⟩
    refine ⟨ok_l hl, ?_⟩
    have ex : (A.map lv)[j]? = some x := ex
    rw [List.getElem?_map, Option.map_eq_some_iff] at ex
    obtain ⟨L, eL, rfl⟩ := ex
    have hj : j < A.length := (List.getElem?_eq_some_iff.mp eL).1
    rw [k_lcT, k_nm]
    obtain ⟨u4, u5⟩ := h4 _ (lv L) rfl
    generalize (wipeP σ [5]).set 5 (some (lv L)) = u at u4 u5 ⊢
    have ig := in_grp hg L.1
    have i0 : idxV (lv L) (.int 0) h2 = some (hv L.1, h2) := idx_t0
    simp only [k_cS, k_T, k_cmp, k_idx, k_var, u4, u5, Option.some.injEq, exists_eq_left', k_int, i0, ig, tr_b]
    rw [List.take_add_one, eL, Option.toList_some, List.filter_append, List.map_append]
    have ti : (aget g L.1).isSome = inG g L := rfl
    rw [ti]
    cases e : inG g L with
    | false => simp [e]
    | true =>
      simp only [if_true, List.filter_cons, e, List.filter_nil, List.map_cons, List.map_nil]
      refine ⟨?_, by first | trivial | exact ⟨rfl, rfl⟩⟩
      rw [List.length_map]
      refine Nat.lt_of_le_of_lt (List.length_filter_le _ _) ?_
      rw [List.length_take]
      omega
  · rintro acc h2 ⟨rfl, rfl⟩
    refine ⟨ok_l hl, ?_⟩
    have hlen : (Src.lst l (A.map lv)).all.length = A.length := by simp [Src.all]
    rw [hlen, List.take_length, unlock_l]
    exact hQ
def B_pieces (fi : Nat) : List S := [.asg (.tp [.nm 1, .nm 2]) (.var 0),
  .asg (.nm 3) (.lst []),
  .for_ (.nm 4) (.val (.bi .sortedMin [.call fi [.op .add (.var 1) (.var 2)]])) [.expr (.bm .append (.var 3) [.tup [.lc (.nm 5) (.val (.var 1)) (some (.cmp .isin (.idx (.var 5) (.int 0)) (.var 4))) (.var 5) [5], .lc (.nm 5) (.val (.var 2)) (some (.cmp .isin (.idx (.var 5) (.int 0)) (.var 4))) (.var 5) [5]]])],
  .ret (.var 3)]
theorem pieces_ok {G : Env} {fi : Nat} (SG : SpecGroups G fi) {N B : Sto → PH → Prop} {R : PV → PH → Prop} {h : PH} {l1 l2 : Nat} {A C : List Line} (h1 : h[l1]? = some (.lst (A.map lv))) (h2 : h[l2]? = some (.lst (C.map lv))) (hz : A.length + C.length < 40000)
    (hR : ∀ h' r ts, h <+: h' → h'[r]? = some (.lst (prefs ts)) → HP A C h' ts → ts.map (·.2) = sortG (groupsP (A ++ C)) → R (.ref r) h') :
    Go (exs G (B_pieces fi) [some (.tup [.ref l1, .ref l2]), none, none, none, none, none] h) N B R := by
  have hs := sizeLine_eq
  unfold B_pieces
  simp only [g_nil, g_cons, g_asg, g_expr, g_ret, g_retN, g_pass, g_brk, g_ife, k_var, k_non, k_bl, k_int, k_str, k_op, k_neg, k_not, k_and, k_or, k_and1, k_and2, k_or1, k_or2, k_cmp, k_idx, k_slc, k_iN, k_iS, k_tup, k_lst, k_dic, k_call, k_bi, k_bm, k_isi, k_nil, k_cons, k_T, k_cN, k_cS, k_val, k_rng1, k_rng2, k_enum, k_zip, k_nm, k_tpT, k_tsN, k_tsC, k_sub, ok_ok, List.getElem?_cons_zero, List.getElem?_cons_succ, List.set_cons_zero, List.set_cons_succ, Option.some.injEq, exists_eq_left', List.length_cons, List.length_nil, true_and, and_true, exists_eq_left, wipeP, ok_tup, lock_l, lock_t, unlock_l, unlock_t, all_l, all_t, src_t, bmT, bmV, on0, on1, on2, biV, idx_t0, idx_t1, idx_t2, neg_i, tr_b, add_i, sub_i, eq_i, ne_i, lt_i, le_i, gt_i, ge_i, eq_b, dict0, sizeLine_eq, Nat.reduceAdd, Nat.reduceLeDiff, Nat.zero_add, evens, odds, abs_i, max_i]
  rw [g_for]
  have c0 := cat_l (at_app (t := [PO.lst []]) h1) (at_app (t := [PO.lst []]) h2) (by simp; omega)
  simp only [g_nil, g_cons, g_asg, g_expr, g_ret, g_retN, g_pass, g_brk, g_ife, k_var, k_non, k_bl, k_int, k_str, k_op, k_neg, k_not, k_and, k_or, k_and1, k_and2, k_or1, k_or2, k_cmp, k_idx, k_slc, k_iN, k_iS, k_tup, k_lst, k_dic, k_call, k_bi, k_bm, k_isi, k_nil, k_cons, k_T, k_cN, k_cS, k_val, k_rng1, k_rng2, k_enum, k_zip, k_nm, k_tpT, k_tsN, k_tsC, k_sub, ok_ok, List.getElem?_cons_zero, List.getElem?_cons_succ, List.set_cons_zero, List.set_cons_succ, Option.some.injEq, exists_eq_left', List.length_cons, List.length_nil, true_and, and_true, exists_eq_left, wipeP, ok_tup, lock_l, lock_t, unlock_l, unlock_t, all_l, all_t, src_t, bmT, bmV, on0, on1, on2, biV, idx_t0, idx_t1, idx_t2, neg_i, tr_b, add_i, sub_i, eq_i, ne_i, lt_i, le_i, gt_i, ge_i, eq_b, dict0, sizeLine_eq, Nat.reduceAdd, Nat.reduceLeDiff, Nat.zero_add, evens, odds, abs_i, max_i, c0]
  refine SG _ _ (A ++ C) _ (by rw [at_new, List.map_append]) (by rw [List.length_append]; omega) fun h3 gl ps p3 eg HGs eps => ?_
  have ne : ∀ p ∈ ps, p.2 ≠ [] := fun p hp => groups_ne (A ++ C) [] (fun g hg => by cases hg) p.2 (by rw [show (A ++ C).foldl stepG [] = groupsP (A ++ C) from rfl, ← eps]; exact List.mem_map.mpr ⟨p, hp, rfl⟩)
  simp only [sortedMin_grp eg HGs ne, Option.some.injEq, exists_eq_left']
  have es : (h3 ++ [PO.lst (refs (sortP ps))])[h3.length]? = some (.lst (refs (sortP ps))) := at_new
  refine ⟨_, src_l es, ?_⟩
  simp only [all_l, lock_l]
  have HS : HG (h3 ++ [PO.lst (refs (sortP ps))]) (sortP ps) := fun p hp => at_app (HGs p ((List.mergeSort_perm _ _).mem_iff.mp hp))
  have esp : (sortP ps).map (·.2) = sortG (groupsP (A ++ C)) := by rw [sortP_snd, eps]
  have len : (sortP ps).length < 1000000 := by
    have a := (List.mergeSort_perm ps fun a b => !lessH (keyG b.2) (keyG a.2)).length_eq
    have b := (groupsP_tot (A ++ C) []).2
    have c : ps.length = (groupsP (A ++ C)).length := by rw [← eps, List.length_map]
    unfold groupsP at c
    unfold sortP
    have b1 : (List.foldl stepG [] (A ++ C)).length ≤ A.length + C.length := by rw [← List.length_append]; simpa using b
    omega
  generalize sortP ps = qs at es HS esp len ⊢
  have p4 : h <+: h3 ++ [PO.lst (refs qs)] := pre_app (((List.prefix_append _ _).trans (List.prefix_append _ _)).trans p3)
  have f4 : (h3 ++ [PO.lst (refs qs)])[h.length]? = some (.lst []) := at_app (pre_at p3 (at_app at_new))
  generalize h3 ++ [PO.lst (refs qs)] = H at es HS p4 f4 ⊢
  have nf : h3.length ≠ h.length := by
    have := p3.length_le
    simp at this
    omega
  have hlt : ∀ p ∈ qs, p.1 ≠ h.length := fun p hp z => by
    have := HS p hp
    rw [z, f4] at this
    simp at this
  refine for_inv (s := .lst h3.length (refs qs)) (fun j σ hh => ∃ x4 x5 ts, σ = [some (.tup [.ref l1, .ref l2]), some (.ref l1), some (.ref l2), some (.ref h.length), x4, x5] ∧ h <+: hh ∧ Same h.length H hh ∧ hh[h.length]? = some (.lst (prefs ts)) ∧ (∀ t ∈ ts, t.1.1 ≠ h.length ∧ t.1.2 ≠ h.length) ∧ HP A C hh ts ∧ ts.map (·.2) = (qs.take j).map (·.2)) ?_ ?_ ?_
  · exact ⟨_, _, [], rfl, p4, same_refl, f4, fun t ht => by simp at ht, fun t ht => by simp at ht, rfl⟩
  · rintro j x σ hh ex ⟨x4, x5, ts, rfl, e1, e2, e3, e6, e4, e5⟩
    have es' := e2 _ _ nf es
    refine ⟨ok_l es', ?_⟩
    have ex : (refs qs)[j]? = some x := ex
    unfold refs at ex
    rw [List.getElem?_map, Option.map_eq_some_iff] at ex
    obtain ⟨p, ep, rfl⟩ := ex
    have mp := List.mem_of_getElem? ep
    have ed := e2 _ _ (hlt p mp) (HS p mp)
    have hj : j < qs.length := (List.getElem?_eq_some_iff.mp ep).1
    have tl : ts.length ≤ j := by have := congrArg List.length e5; simp at this; omega
    rw [g_forB]
    simp only [g_nil, g_cons, g_asg, g_expr, g_ret, g_retN, g_pass, g_brk, g_ife, k_var, k_non, k_bl, k_int, k_str, k_op, k_neg, k_not, k_and, k_or, k_and1, k_and2, k_or1, k_or2, k_cmp, k_idx, k_slc, k_iN, k_iS, k_tup, k_lst, k_dic, k_call, k_bi, k_bm, k_isi, k_nil, k_cons, k_T, k_cN, k_cS, k_val, k_rng1, k_rng2, k_enum, k_zip, k_nm, k_tpT, k_tsN, k_tsC, k_sub, ok_ok, List.getElem?_cons_zero, List.getElem?_cons_succ, List.set_cons_zero, List.set_cons_succ, Option.some.injEq, exists_eq_left', List.length_cons, List.length_nil, true_and, and_true, exists_eq_left, wipeP, ok_tup, lock_l, lock_t, unlock_l, unlock_t, all_l, all_t, src_t, bmT, bmV, on0, on1, on2, biV, idx_t0, idx_t1, idx_t2, neg_i, tr_b, add_i, sub_i, eq_i, ne_i, lt_i, le_i, gt_i, ge_i, eq_b, dict0, sizeLine_eq, Nat.reduceAdd, Nat.reduceLeDiff, Nat.zero_add, evens, odds, abs_i, max_i]
    refine ⟨ty_l e3, ?_⟩
    refine part_ok (l := l1) (r := p.1) (A := A) (g := p.2) (pre_at e1 h1) ed (by omega) rfl (fun u w e => by rw [← e]; exact ⟨rfl, rfl⟩) ?_
    refine part_ok (l := l2) (r := p.1) (A := C) (g := p.2) (at_app (pre_at e1 h2)) (at_app ed) (by omega) rfl (fun u w e => by rw [← e]; exact ⟨rfl, rfl⟩) ?_
    have ap := app_l (v := .tup [.ref hh.length, .ref (hh ++ [PO.lst ((A.filter (inG p.2)).map lv)]).length]) (at_app (t := [PO.lst ((C.filter (inG p.2)).map lv)]) (at_app (t := [PO.lst ((A.filter (inG p.2)).map lv)]) e3)) (by unfold prefs; rw [List.length_map]; omega)
    simp only [ap, Option.some.injEq, exists_eq_left']
    have fl := at_lt e3
    have e3' : (hh ++ [PO.lst ((A.filter (inG p.2)).map lv)] ++ [PO.lst ((C.filter (inG p.2)).map lv)])[h.length]? = some (.lst (prefs ts)) := at_app (at_app e3)
    refine ⟨_, _, ts ++ [((hh.length, (hh ++ [PO.lst ((A.filter (inG p.2)).map lv)]).length), p.2)], rfl, pre_set (pre_app (pre_app e1)) (Nat.le_refl _), same_set (same_app (same_app e2)), ?_, ?_, ?_, ?_⟩
    · rw [at_set e3']
      unfold prefs
      rw [List.map_append]
      rfl
    · intro t ht
      rcases List.mem_append.mp ht with ht | ht
      · exact e6 t ht
      · rw [List.mem_singleton] at ht
        rw [ht]
        exact ⟨Nat.ne_of_gt fl, by simp; omega⟩
    · intro t ht
      rcases List.mem_append.mp ht with ht | ht
      · obtain ⟨a, b⟩ := e4 t ht
        obtain ⟨n1, n2⟩ := e6 t ht
        exact ⟨at_set_ne (Ne.symm n1) (at_app (at_app a)), at_set_ne (Ne.symm n2) (at_app (at_app b))⟩
      · rw [List.mem_singleton] at ht
        rw [ht]
        exact ⟨at_set_ne (Nat.ne_of_lt fl) (at_app at_new), at_set_ne (by simp; omega) at_new⟩
    · rw [List.map_append, e5, List.take_add_one, ep, Option.toList_some, List.map_append]
      rfl
  · rintro σ hh ⟨x4, x5, ts, rfl, e1, e2, e3, e6, e4, e5⟩
    refine ⟨ok_l (e2 _ _ nf es), ?_⟩
    have hlen : (Src.lst h3.length (refs qs)).all.length = qs.length := by simp [Src.all, refs]
    rw [hlen, List.take_length, esp] at e5
    rw [unlock_l]
    simp only [g_nil, g_cons, g_asg, g_expr, g_ret, g_retN, g_pass, g_brk, g_ife, k_var, k_non, k_bl, k_int, k_str, k_op, k_neg, k_not, k_and, k_or, k_and1, k_and2, k_or1, k_or2, k_cmp, k_idx, k_slc, k_iN, k_iS, k_tup, k_lst, k_dic, k_call, k_bi, k_bm, k_isi, k_nil, k_cons, k_T, k_cN, k_cS, k_val, k_rng1, k_rng2, k_enum, k_zip, k_nm, k_tpT, k_tsN, k_tsC, k_sub, ok_ok, List.getElem?_cons_zero, List.getElem?_cons_succ, List.set_cons_zero, List.set_cons_succ, Option.some.injEq, exists_eq_left', List.length_cons, List.length_nil, true_and, and_true, exists_eq_left, wipeP, ok_tup, lock_l, lock_t, unlock_l, unlock_t, all_l, all_t, src_t, bmT, bmV, on0, on1, on2, biV, idx_t0, idx_t1, idx_t2, neg_i, tr_b, add_i, sub_i, eq_i, ne_i, lt_i, le_i, gt_i, ge_i, eq_b, dict0, sizeLine_eq, Nat.reduceAdd, Nat.reduceLeDiff, Nat.zero_add, evens, odds, abs_i, max_i]
    exact hR _ _ _ e1 e3 e4 e5
end Z
end

section
set_option Elab.async false
set_option linter.all false
set_option maxRecDepth 100000
set_option autoImplicit false
set_option maxHeartbeats 2000000
/-! P3: need, walked; the calls by levels. -/
namespace Z
open PySem L2
open En

def absI (i : Int) : Int := if i < 0 then -i else i
def looseI (A C : List Line) : Int := ((surp A C).map fun p => absI p.2).sum
def oneN (s : Int) : Int := if s / 2 > 1 then s / 2 else 1
def needG (A C : List Line) (g : Grp) : Int := oneN (looseI (A.filter (inG g)) (C.filter (inG g)))
def needP (A C : List Line) : Int := ((sortG (groupsP (A ++ C))).map (needG A C)).sum
def SpecNeed (G : Env) (fi : Nat) : Prop := ∀ (h : PH) (l1 l2 : Nat) (A C : List Line) (Q : PV → PH → Prop), h[l1]? = some (.lst (A.map lv)) → h[l2]? = some (.lst (C.map lv)) → A.length + C.length < 40000 →
  (∀ h', h <+: h' → Q (.int (needP A C)) h') → Ok (G.call fi [.tup [.ref l1, .ref l2]] h) Q
def B_need (fp fs : Nat) : List S := [.asg (.nm 1) (.int 0),
  .for_ (.nm 2) (.val (.call fp [.var 0])) [.asg (.nm 3) (.bi .sum [.lc (.tp [.nm 4, .nm 5]) (.val (.call fs [.var 2])) none (.bi .abs [.var 5]) [4, 5]]), .asg (.nm 1) (.op .add (.var 1) (.bi .max2 [.int 1, .op .fdiv (.var 3) (.int 2)]))],
  .ret (.var 1)]
theorem surp_len (A C : List Line) : (surp A C).length ≤ 2 * A.length + 2 * C.length := by
  unfold surp
  rw [List.length_map]
  refine Nat.le_trans (List.length_filter_le _ _) ?_
  rw [(sortE_perm _).length_eq, List.length_map]
  have a1 := foldl_len 1 A []
  have a2 := foldl_len (-1) C (A.foldl (bumpL 1) [])
  unfold foundT
  simp at a1
  omega
theorem need_ok {G : Env} {fp fs : Nat} (SP : SpecPieces G fp) (SS : SpecSurplus G fs) {N B : Sto → PH → Prop} {R : PV → PH → Prop} {h : PH} {l1 l2 : Nat} {A C : List Line} (h1 : h[l1]? = some (.lst (A.map lv))) (h2 : h[l2]? = some (.lst (C.map lv))) (hz : A.length + C.length < 40000)
    (hR : ∀ h', h <+: h' → R (.int (needP A C)) h') :
    Go (exs G (B_need fp fs) [some (.tup [.ref l1, .ref l2]), none, none, none, none, none] h) N B R := by
  have hs := sizeLine_eq
  unfold B_need
  simp only [g_nil, g_cons, g_asg, g_expr, g_ret, g_retN, g_pass, g_brk, g_ife, k_var, k_non, k_bl, k_int, k_str, k_op, k_neg, k_not, k_and, k_or, k_and1, k_and2, k_or1, k_or2, k_cmp, k_idx, k_slc, k_iN, k_iS, k_tup, k_lst, k_dic, k_call, k_bi, k_bm, k_isi, k_nil, k_cons, k_T, k_cN, k_cS, k_val, k_rng1, k_rng2, k_enum, k_zip, k_nm, k_tpT, k_tsN, k_tsC, k_sub, ok_ok, List.getElem?_cons_zero, List.getElem?_cons_succ, List.set_cons_zero, List.set_cons_succ, Option.some.injEq, exists_eq_left', List.length_cons, List.length_nil, true_and, and_true, exists_eq_left, wipeP, ok_tup, lock_l, lock_t, unlock_l, unlock_t, all_l, all_t, src_t, bmT, bmV, on0, on1, on2, biV, idx_t0, idx_t1, idx_t2, neg_i, tr_b, add_i, sub_i, eq_i, ne_i, lt_i, le_i, gt_i, ge_i, eq_b, dict0, sizeLine_eq, Nat.reduceAdd, Nat.reduceLeDiff, Nat.zero_add, evens, odds, abs_i, max_i]
  rw [g_for]
  simp only [g_nil, g_cons, g_asg, g_expr, g_ret, g_retN, g_pass, g_brk, g_ife, k_var, k_non, k_bl, k_int, k_str, k_op, k_neg, k_not, k_and, k_or, k_and1, k_and2, k_or1, k_or2, k_cmp, k_idx, k_slc, k_iN, k_iS, k_tup, k_lst, k_dic, k_call, k_bi, k_bm, k_isi, k_nil, k_cons, k_T, k_cN, k_cS, k_val, k_rng1, k_rng2, k_enum, k_zip, k_nm, k_tpT, k_tsN, k_tsC, k_sub, ok_ok, List.getElem?_cons_zero, List.getElem?_cons_succ, List.set_cons_zero, List.set_cons_succ, Option.some.injEq, exists_eq_left', List.length_cons, List.length_nil, true_and, and_true, exists_eq_left, wipeP, ok_tup, lock_l, lock_t, unlock_l, unlock_t, all_l, all_t, src_t, bmT, bmV, on0, on1, on2, biV, idx_t0, idx_t1, idx_t2, neg_i, tr_b, add_i, sub_i, eq_i, ne_i, lt_i, le_i, gt_i, ge_i, eq_b, dict0, sizeLine_eq, Nat.reduceAdd, Nat.reduceLeDiff, Nat.zero_add, evens, odds, abs_i, max_i]
  refine SP _ _ _ A C _ h1 h2 hz fun H r ts p0 er HPs ets => ?_
  refine ⟨_, src_l er, ?_⟩
  simp only [all_l, lock_l]
  refine for_inv (s := .lst r (prefs ts)) (fun j σ hh => ∃ x2 x3 x4 x5, σ = [some (.tup [.ref l1, .ref l2]), some (.int (((ts.take j).map fun t => needG A C t.2).sum)), x2, x3, x4, x5] ∧ H <+: hh) ?_ ?_ ?_
  · exact ⟨_, _, _, _, rfl, List.prefix_rfl⟩
  · rintro j x σ hh ex ⟨x2, x3, x4, x5, rfl, e1⟩
    refine ⟨ok_l (pre_at e1 er), ?_⟩
    have ex : (prefs ts)[j]? = some x := ex
    unfold prefs at ex
    rw [List.getElem?_map, Option.map_eq_some_iff] at ex
    obtain ⟨t, et, rfl⟩ := ex
    have mt := List.mem_of_getElem? et
    obtain ⟨a, b⟩ := HPs t mt
    have la := List.length_filter_le (inG t.2) A
    have lc := List.length_filter_le (inG t.2) C
    have sl := surp_len (A.filter (inG t.2)) (C.filter (inG t.2))
    rw [g_forB]
    simp only [g_nil, g_cons, g_asg, g_expr, g_ret, g_retN, g_pass, g_brk, g_ife, k_var, k_non, k_bl, k_int, k_str, k_op, k_neg, k_not, k_and, k_or, k_and1, k_and2, k_or1, k_or2, k_cmp, k_idx, k_slc, k_iN, k_iS, k_tup, k_lst, k_dic, k_call, k_bi, k_bm, k_isi, k_nil, k_cons, k_T, k_cN, k_cS, k_val, k_rng1, k_rng2, k_enum, k_zip, k_nm, k_tpT, k_tsN, k_tsC, k_sub, ok_ok, List.getElem?_cons_zero, List.getElem?_cons_succ, List.set_cons_zero, List.set_cons_succ, Option.some.injEq, exists_eq_left', List.length_cons, List.length_nil, true_and, and_true, exists_eq_left, wipeP, ok_tup, lock_l, lock_t, unlock_l, unlock_t, all_l, all_t, src_t, bmT, bmV, on0, on1, on2, biV, idx_t0, idx_t1, idx_t2, neg_i, tr_b, add_i, sub_i, eq_i, ne_i, lt_i, le_i, gt_i, ge_i, eq_b, dict0, sizeLine_eq, Nat.reduceAdd, Nat.reduceLeDiff, Nat.zero_add, evens, odds, abs_i, max_i]
    rw [k_lc]
    simp only [g_nil, g_cons, g_asg, g_expr, g_ret, g_retN, g_pass, g_brk, g_ife, k_var, k_non, k_bl, k_int, k_str, k_op, k_neg, k_not, k_and, k_or, k_and1, k_and2, k_or1, k_or2, k_cmp, k_idx, k_slc, k_iN, k_iS, k_tup, k_lst, k_dic, k_call, k_bi, k_bm, k_isi, k_nil, k_cons, k_T, k_cN, k_cS, k_val, k_rng1, k_rng2, k_enum, k_zip, k_nm, k_tpT, k_tsN, k_tsC, k_sub, ok_ok, List.getElem?_cons_zero, List.getElem?_cons_succ, List.set_cons_zero, List.set_cons_succ, Option.some.injEq, exists_eq_left', List.length_cons, List.length_nil, true_and, and_true, exists_eq_left, wipeP, ok_tup, lock_l, lock_t, unlock_l, unlock_t, all_l, all_t, src_t, bmT, bmV, on0, on1, on2, biV, idx_t0, idx_t1, idx_t2, neg_i, tr_b, add_i, sub_i, eq_i, ne_i, lt_i, le_i, gt_i, ge_i, eq_b, dict0, sizeLine_eq, Nat.reduceAdd, Nat.reduceLeDiff, Nat.zero_add, evens, odds, abs_i, max_i]
    refine SS _ _ _ _ _ _ (pre_at e1 a) (pre_at e1 b) (by omega) fun h3 q p3 eq => ?_
    refine ⟨_, src_l eq, ?_⟩
    generalize hS : surp (A.filter (inG t.2)) (C.filter (inG t.2)) = su at eq sl ⊢
    have hneed : needG A C t.2 = oneN ((su.map fun p => absI p.2).sum) := by unfold needG looseI; rw [hS]
    simp only [all_l, lock_l]
    refine lc_inv (s := .lst q (su.map fun p => .tup [hv p.1, .int p.2])) (fun j acc h2 => h2 = h3 ∧ acc = ((su.take j).map fun p => absI p.2).map PV.int) ⟨rfl, rfl⟩ ?_ ?_
    · rintro i x acc h2 ex ⟨rfl, rfl⟩
      refine ⟨ok_l eq, ?_⟩
      have ex : (su.map fun p => PV.tup [hv p.1, .int p.2])[i]? = some x := ex
      rw [List.getElem?_map, Option.map_eq_some_iff] at ex
      obtain ⟨p, ep, rfl⟩ := ex
      have hi : i < su.length := (List.getElem?_eq_some_iff.mp ep).1
      rw [k_lcT]
      simp only [g_nil, g_cons, g_asg, g_expr, g_ret, g_retN, g_pass, g_brk, g_ife, k_var, k_non, k_bl, k_int, k_str, k_op, k_neg, k_not, k_and, k_or, k_and1, k_and2, k_or1, k_or2, k_cmp, k_idx, k_slc, k_iN, k_iS, k_tup, k_lst, k_dic, k_call, k_bi, k_bm, k_isi, k_nil, k_cons, k_T, k_cN, k_cS, k_val, k_rng1, k_rng2, k_enum, k_zip, k_nm, k_tpT, k_tsN, k_tsC, k_sub, ok_ok, List.getElem?_cons_zero, List.getElem?_cons_succ, List.set_cons_zero, List.set_cons_succ, Option.some.injEq, exists_eq_left', List.length_cons, List.length_nil, true_and, and_true, exists_eq_left, wipeP, ok_tup, lock_l, lock_t, unlock_l, unlock_t, all_l, all_t, src_t, bmT, bmV, on0, on1, on2, biV, idx_t0, idx_t1, idx_t2, neg_i, tr_b, add_i, sub_i, eq_i, ne_i, lt_i, le_i, gt_i, ge_i, eq_b, dict0, sizeLine_eq, Nat.reduceAdd, Nat.reduceLeDiff, Nat.zero_add, evens, odds, abs_i, max_i]
      rw [if_pos trivial]
      refine ⟨?_, ?_⟩
      · rw [List.length_map, List.length_map, List.length_take]; omega
      · rw [List.take_add_one, ep, Option.toList_some, List.map_append, List.map_append]
        rfl
    · rintro acc h2 ⟨rfl, rfl⟩
      refine ⟨ok_l eq, ?_⟩
      have hlen : (Src.lst q (su.map fun p => PV.tup [hv p.1, .int p.2])).all.length = su.length := by simp [Src.all]
      rw [hlen, List.take_length, unlock_l]
      simp only [sum_l at_new (ints_of _), Option.some.injEq, exists_eq_left']
      have dv : opV .fdiv (.int ((su.map fun p => absI p.2).sum)) (.int 2) (h2 ++ [PO.lst ((su.map fun p => absI p.2).map PV.int)]) = some (.int ((su.map fun p => absI p.2).sum / 2), h2 ++ [PO.lst ((su.map fun p => absI p.2).map PV.int)]) := div_i (by decide) (by decide)
      simp only [g_nil, g_cons, g_asg, g_expr, g_ret, g_retN, g_pass, g_brk, g_ife, k_var, k_non, k_bl, k_int, k_str, k_op, k_neg, k_not, k_and, k_or, k_and1, k_and2, k_or1, k_or2, k_cmp, k_idx, k_slc, k_iN, k_iS, k_tup, k_lst, k_dic, k_call, k_bi, k_bm, k_isi, k_nil, k_cons, k_T, k_cN, k_cS, k_val, k_rng1, k_rng2, k_enum, k_zip, k_nm, k_tpT, k_tsN, k_tsC, k_sub, ok_ok, List.getElem?_cons_zero, List.getElem?_cons_succ, List.set_cons_zero, List.set_cons_succ, Option.some.injEq, exists_eq_left', List.length_cons, List.length_nil, true_and, and_true, exists_eq_left, wipeP, ok_tup, lock_l, lock_t, unlock_l, unlock_t, all_l, all_t, src_t, bmT, bmV, on0, on1, on2, biV, idx_t0, idx_t1, idx_t2, neg_i, tr_b, add_i, sub_i, eq_i, ne_i, lt_i, le_i, gt_i, ge_i, eq_b, dict0, sizeLine_eq, Nat.reduceAdd, Nat.reduceLeDiff, Nat.zero_add, evens, odds, abs_i, max_i, dv]
      have es : ((ts.take (j + 1)).map fun t => needG A C t.2).sum = ((ts.take j).map fun t => needG A C t.2).sum + oneN ((su.map fun p => absI p.2).sum) := by
        rw [List.take_add_one, et, Option.toList_some, List.map_append, List.sum_append, List.map_cons, List.map_nil, List.sum_cons, List.sum_nil, Int.add_zero, hneed]
      rw [es]
      exact ⟨_, _, _, _, rfl, pre_app (e1.trans p3)⟩
  · rintro σ hh ⟨x2, x3, x4, x5, rfl, e1⟩
    refine ⟨ok_l (pre_at e1 er), ?_⟩
    have hlen : (Src.lst r (prefs ts)).all.length = ts.length := by simp [Src.all, prefs]
    rw [hlen, List.take_length, unlock_l]
    simp only [g_nil, g_cons, g_asg, g_expr, g_ret, g_retN, g_pass, g_brk, g_ife, k_var, k_non, k_bl, k_int, k_str, k_op, k_neg, k_not, k_and, k_or, k_and1, k_and2, k_or1, k_or2, k_cmp, k_idx, k_slc, k_iN, k_iS, k_tup, k_lst, k_dic, k_call, k_bi, k_bm, k_isi, k_nil, k_cons, k_T, k_cN, k_cS, k_val, k_rng1, k_rng2, k_enum, k_zip, k_nm, k_tpT, k_tsN, k_tsC, k_sub, ok_ok, List.getElem?_cons_zero, List.getElem?_cons_succ, List.set_cons_zero, List.set_cons_succ, Option.some.injEq, exists_eq_left', List.length_cons, List.length_nil, true_and, and_true, exists_eq_left, wipeP, ok_tup, lock_l, lock_t, unlock_l, unlock_t, all_l, all_t, src_t, bmT, bmV, on0, on1, on2, biV, idx_t0, idx_t1, idx_t2, neg_i, tr_b, add_i, sub_i, eq_i, ne_i, lt_i, le_i, gt_i, ge_i, eq_b, dict0, sizeLine_eq, Nat.reduceAdd, Nat.reduceLeDiff, Nat.zero_add, evens, odds, abs_i, max_i]
    have : (ts.map fun t => needG A C t.2).sum = needP A C := by
      unfold needP
      rw [← ets, List.map_map]
      rfl
    rw [this]
    exact hR hh (p0.trans e1)
section
variable {T : List DefI} {sub : Nat → Nat → Bool} {k fi fp fs : Nat} {d : DefI}
theorem spec_groups (hd : T[fi]? = some d) (hn : d.n = 1) (hN : d.N.length = 7) (hb : d.body = B_groups) : SpecGroups (lvl T sub (k + 1)) fi := by
  intro h l0 L Q a b c
  refine call_lvl hd hn.symm ?_
  rw [hN, hb]
  exact groups_ok a b c
theorem spec_surplus (hd : T[fi]? = some d) (hn : d.n = 1) (hN : d.N.length = 6) (hb : d.body = B_surplus) : SpecSurplus (lvl T sub (k + 1)) fi := by
  intro h l1 l2 A C Q a b c e
  refine call_lvl hd hn.symm ?_
  rw [hN, hb]
  exact surplus_ok a b c e
theorem spec_pieces (SG : SpecGroups (lvl T sub k) fp) (hd : T[fi]? = some d) (hn : d.n = 1) (hN : d.N.length = 6) (hb : d.body = B_pieces fp) : SpecPieces (lvl T sub (k + 1)) fi := by
  intro h l1 l2 A C Q a b c e
  refine call_lvl hd hn.symm ?_
  rw [hN, hb]
  exact pieces_ok SG a b c e
theorem spec_need (SP : SpecPieces (lvl T sub k) fp) (SS : SpecSurplus (lvl T sub k) fs) (hd : T[fi]? = some d) (hn : d.n = 1) (hN : d.N.length = 6) (hb : d.body = B_need fp fs) : SpecNeed (lvl T sub (k + 1)) fi := by
  intro h l1 l2 A C Q a b c e
  refine call_lvl hd hn.symm ?_
  rw [hN, hb]
  exact need_ok SP SS a b c e
end
end Z
end

section
set_option Elab.async false
set_option linter.all false
set_option maxRecDepth 100000
set_option autoImplicit false
set_option maxHeartbeats 2000000
/-! P4: the law's own functions, walked. -/
namespace Z
open PySem L2
open En

def roN (ns : List Int) : PV := .ro (ns.map PV.int)
def SpecCell (G : Env) (fi : Nat) : Prop := ∀ (h : PH) (ns : List Int) (k : Int) (Q : PV → PH → Prop), 0 ≤ k → (∀ i : Int, Q (.int i) h) → Ok (G.call fi [roN ns, .int k] h) Q
def SpecEnds (G : Env) (fi : Nat) : Prop := ∀ (h : PH) (c f : Int) (Q : PV → PH → Prop), (∀ l : Line, l.1 ≠ l.2 → Q (lv l) h) → Ok (G.call fi [.int c, .int f] h) Q
def SpecFar (G : Env) (fi : Nat) : Prop := ∀ (h : PH) (c : Int) (Q : PV → PH → Prop), (∀ (i : Int) h', h <+: h' → Q (.int i) h') → Ok (G.call fi [.int c] h) Q
def B_cell : List S := [.ife (.cmp .lt (.var 1) (.bi .len [.var 0])) [.ret (.idx (.var 0) (.var 1))] [],
  .ret (.int 0)]
theorem cell_ok {G : Env} {N B : Sto → PH → Prop} {R : PV → PH → Prop} {h : PH} {ns : List Int} {k : Int} (hk : 0 ≤ k) (hR : ∀ i : Int, R (.int i) h) : Go (exs G B_cell [some (roN ns), some (.int k)] h) N B R := by
  unfold B_cell roN
  simp only [g_nil, g_cons, g_asg, g_expr, g_ret, g_retN, g_pass, g_brk, g_ife, k_var, k_non, k_bl, k_int, k_str, k_op, k_neg, k_not, k_and, k_or, k_and1, k_and2, k_or1, k_or2, k_cmp, k_idx, k_slc, k_iN, k_iS, k_tup, k_lst, k_dic, k_call, k_bi, k_bm, k_isi, k_nil, k_cons, k_T, k_cN, k_cS, k_val, k_rng1, k_rng2, k_enum, k_zip, k_nm, k_tpT, k_tsN, k_tsC, k_sub, ok_ok, List.getElem?_cons_zero, List.getElem?_cons_succ, List.set_cons_zero, List.set_cons_succ, Option.some.injEq, exists_eq_left', List.length_cons, List.length_nil, true_and, and_true, exists_eq_left, wipeP, ok_tup, lock_l, lock_t, unlock_l, unlock_t, all_l, all_t, src_t, bmT, bmV, on0, on1, on2, biV, idx_t0, idx_t1, idx_t2, neg_i, tr_b, add_i, sub_i, eq_i, ne_i, lt_i, le_i, gt_i, ge_i, eq_b, dict0, sizeLine_eq, Nat.reduceAdd, Nat.reduceLeDiff, Nat.zero_add, evens, odds, abs_i, max_i, len_ro]
  split
  · rename_i z
    have z : k < (ns.length : Int) := by simpa using z
    obtain ⟨v, e⟩ : ∃ v, ns[k.toNat]? = some v := ⟨ns[k.toNat], List.getElem?_eq_getElem (by omega)⟩
    have e1 : (ns.map PV.int)[k.toNat]? = some (.int v) := by rw [List.getElem?_map, e]; rfl
    simp only [idx_ro hk e1, Option.some.injEq, exists_eq_left']
    exact hR v
  · exact hR 0
def B_far : List S := [.ret (.idx (.lst [.int 0, .int 0, .int 0, .op .sub (.op .pow (.int 10) (.int 9)) (.int 12), .op .sub (.int 12) (.op .pow (.int 10) (.int 9))]) (.op .mod (.var 0) (.int 5)))]
theorem far_ok {G : Env} {N B : Sto → PH → Prop} {R : PV → PH → Prop} {h : PH} {c : Int} (hR : ∀ (i : Int) h', h <+: h' → R (.int i) h') : Go (exs G B_far [some (.int c)] h) N B R := by
  unfold B_far
  have pw : ∀ h : PH, opV .pow (.int 10) (.int 9) h = some (.int 1000000000, h) := fun h => by
    simp only [opV, powV]
    rw [if_pos ⟨by decide, by decide, by decide⟩]
    rfl
  simp only [g_nil, g_cons, g_asg, g_expr, g_ret, g_retN, g_pass, g_brk, g_ife, k_var, k_non, k_bl, k_int, k_str, k_op, k_neg, k_not, k_and, k_or, k_and1, k_and2, k_or1, k_or2, k_cmp, k_idx, k_slc, k_iN, k_iS, k_tup, k_lst, k_dic, k_call, k_bi, k_bm, k_isi, k_nil, k_cons, k_T, k_cN, k_cS, k_val, k_rng1, k_rng2, k_enum, k_zip, k_nm, k_tpT, k_tsN, k_tsC, k_sub, ok_ok, List.getElem?_cons_zero, List.getElem?_cons_succ, List.set_cons_zero, List.set_cons_succ, Option.some.injEq, exists_eq_left', List.length_cons, List.length_nil, true_and, and_true, exists_eq_left, wipeP, ok_tup, lock_l, lock_t, unlock_l, unlock_t, all_l, all_t, src_t, bmT, bmV, on0, on1, on2, biV, idx_t0, idx_t1, idx_t2, neg_i, tr_b, add_i, sub_i, eq_i, ne_i, lt_i, le_i, gt_i, ge_i, eq_b, dict0, sizeLine_eq, Nat.reduceAdd, Nat.reduceLeDiff, Nat.zero_add, evens, odds, abs_i, max_i, pw, mod_i (show (0 : Int) < 5 by decide)]
  have a := Int.emod_nonneg c (show (5 : Int) ≠ 0 by decide)
  have b := Int.emod_lt_of_pos c (show (0 : Int) < 5 by decide)
  obtain ⟨v, e⟩ : ∃ v, [(0 : Int), 0, 0, 1000000000 - 12, 12 - 1000000000][(c % 5).toNat]? = some v := ⟨_, List.getElem?_eq_getElem (by simp; omega)⟩
  have e1 : ([(0 : Int), 0, 0, 1000000000 - 12, 12 - 1000000000].map PV.int)[(c % 5).toNat]? = some (.int v) := by rw [List.getElem?_map, e]; rfl
  have i1 := idx_l (h := h ++ [PO.lst ([(0 : Int), 0, 0, 1000000000 - 12, 12 - 1000000000].map PV.int)]) at_new a e1
  exact ⟨_, i1, hR _ _ (List.prefix_append _ _)⟩
def B_ends : List S := [.asg (.nm 2) (.op .mod (.op .mul (.var 0) (.int 48271)) (.int 2147483629)),
  .asg (.nm 3) (.op .add (.op .mod (.var 2) (.int 4)) (.var 1)),
  .asg (.nm 4) (.op .sub (.op .mod (.op .fdiv (.var 2) (.int 4)) (.int 4)) (.var 1)),
  .asg (.nm 5) (.op .sub (.op .mod (.op .fdiv (.var 2) (.int 16)) (.int 5)) (.int 2)),
  .asg (.nm 6) (.op .sub (.op .mod (.op .fdiv (.var 2) (.int 80)) (.int 5)) (.int 2)),
  .ife (.cmp .eq (.op .mod (.op .fdiv (.var 2) (.int 400)) (.int 8)) (.int 1)) [.asg (.nm 5) (.op .sub (.op .mod (.op .fdiv (.var 2) (.int 3200)) (.int 19)) (.int 9)), .asg (.nm 6) (.op .sub (.op .mod (.op .fdiv (.var 2) (.int 60800)) (.int 19)) (.int 9))] [],
  .ife (.and [.cmp .eq (.var 5) (.int 0), .cmp .eq (.var 6) (.int 0)]) [.asg (.nm 5) (.int 1)] [],
  .ife (.or [.cmp .lt (.var 5) (.int 0), .and [.cmp .eq (.var 5) (.int 0), .cmp .lt (.var 6) (.int 0)]]) [.ret (.tup [.tup [.op .add (.var 3) (.var 5), .op .add (.var 4) (.var 6)], .tup [.var 3, .var 4]])] [],
  .ret (.tup [.tup [.var 3, .var 4], .tup [.op .add (.var 3) (.var 5), .op .add (.var 4) (.var 6)]])]
theorem mod_j {i j : Int} {h : PH} (hj : decide (0 < j) = true) : opV .mod (.int i) (.int j) h = some (.int (i % j), h) := mod_i (of_decide_eq_true hj)
theorem div_j {i j : Int} {h : PH} (hj : decide (0 < j) = true) (hz : decide (j < 10 ^ 60) = true) : opV .fdiv (.int i) (.int j) h = some (.int (i / j), h) := div_i (of_decide_eq_true hj) (of_decide_eq_true hz)
/-- the last of _law_ends -/
theorem ends_tail {G : Env} {N B : Sto → PH → Prop} {R : PV → PH → Prop} {h : PH} {a b c : Option PV} {x y e n : Int} (hR : ∀ l : Line, l.1 ≠ l.2 → R (lv l) h) :
    Go (exs G [.ife (.and [.cmp .eq (.var 5) (.int 0), .cmp .eq (.var 6) (.int 0)]) [.asg (.nm 5) (.int 1)] [],
  .ife (.or [.cmp .lt (.var 5) (.int 0), .and [.cmp .eq (.var 5) (.int 0), .cmp .lt (.var 6) (.int 0)]]) [.ret (.tup [.tup [.op .add (.var 3) (.var 5), .op .add (.var 4) (.var 6)], .tup [.var 3, .var 4]])] [],
  .ret (.tup [.tup [.var 3, .var 4], .tup [.op .add (.var 3) (.var 5), .op .add (.var 4) (.var 6)]])] [a, b, c, some (.int x), some (.int y), some (.int e), some (.int n)] h) N B R := by
  have last : ∀ e n : Int, (e ≠ 0 ∨ n ≠ 0) → Go (exs G [.ife (.or [.cmp .lt (.var 5) (.int 0), .and [.cmp .eq (.var 5) (.int 0), .cmp .lt (.var 6) (.int 0)]]) [.ret (.tup [.tup [.op .add (.var 3) (.var 5), .op .add (.var 4) (.var 6)], .tup [.var 3, .var 4]])] [],
  .ret (.tup [.tup [.var 3, .var 4], .tup [.op .add (.var 3) (.var 5), .op .add (.var 4) (.var 6)]])] [a, b, c, some (.int x), some (.int y), some (.int e), some (.int n)] h) N B R := by
    intro e n d
    have h1 : R (.tup [.tup [.int (x + e), .int (y + n)], .tup [.int x, .int y]]) h := hR ((x + e, y + n), (x, y)) (by intro z; simp only [Prod.mk.injEq] at z; omega)
    have h2 : R (.tup [.tup [.int x, .int y], .tup [.int (x + e), .int (y + n)]]) h := hR ((x, y), (x + e, y + n)) (by intro z; simp only [Prod.mk.injEq] at z; omega)
    simp only [g_nil, g_cons, g_asg, g_expr, g_ret, g_retN, g_pass, g_brk, g_ife, g_for, g_forB, g_whl, k_var, k_non, k_bl, k_int, k_str, k_op, k_neg, k_not, k_and, k_or, k_and1, k_and2, k_or1, k_or2, k_cmp, k_idx, k_slc, k_iN, k_iS, k_tup, k_lst, k_dic, k_call, k_bi, k_bm, k_isi, k_nil, k_cons, k_T, k_cN, k_cS, k_lc, k_lcT, k_val, k_rng1, k_rng2, k_enum, k_zip, k_nm, k_tpT, k_tsN, k_tsC, k_sub, ok_ok, List.getElem?_cons_zero, List.getElem?_cons_succ, List.set_cons_zero, List.set_cons_succ, Option.some.injEq, exists_eq_left', List.length_cons, List.length_nil, true_and, and_true, exists_eq_left, wipeP, ok_tup, lock_l, lock_t, unlock_l, unlock_t, all_l, all_t, src_t, bmT, bmV, on0, on1, on2, biV, idx_t0, idx_t1, idx_t2, neg_i, tr_b, add_i, sub_i, eq_i, ne_i, lt_i, le_i, gt_i, ge_i, eq_b, dict0, sizeLine_eq, Nat.reduceAdd, Nat.reduceLeDiff, Nat.zero_add, evens, odds, abs_i, max_i]
    repeat' split
    all_goals first | exact h1 | exact h2
  generalize [S.ife (.or [.cmp .lt (.var 5) (.int 0), .and [.cmp .eq (.var 5) (.int 0), .cmp .lt (.var 6) (.int 0)]]) [.ret (.tup [.tup [.op .add (.var 3) (.var 5), .op .add (.var 4) (.var 6)], .tup [.var 3, .var 4]])] [],
  .ret (.tup [.tup [.var 3, .var 4], .tup [.op .add (.var 3) (.var 5), .op .add (.var 4) (.var 6)]])] = tl at last ⊢
  rw [g_cons]
  simp only [g_nil, g_cons, g_asg, g_expr, g_ret, g_retN, g_pass, g_brk, g_ife, k_var, k_non, k_bl, k_int, k_str, k_op, k_neg, k_not, k_and, k_or, k_and1, k_and2, k_or1, k_or2, k_cmp, k_idx, k_slc, k_iN, k_iS, k_tup, k_lst, k_dic, k_call, k_bi, k_bm, k_isi, k_nil, k_cons, k_T, k_cN, k_cS, k_val, k_rng1, k_rng2, k_enum, k_zip, k_nm, k_tpT, k_tsN, k_tsC, k_sub, ok_ok, List.getElem?_cons_zero, List.getElem?_cons_succ, List.set_cons_zero, List.set_cons_succ, Option.some.injEq, exists_eq_left', List.length_cons, List.length_nil, true_and, and_true, exists_eq_left, wipeP, ok_tup, lock_l, lock_t, unlock_l, unlock_t, all_l, all_t, src_t, bmT, bmV, on0, on1, on2, biV, idx_t0, idx_t1, idx_t2, neg_i, tr_b, add_i, sub_i, eq_i, ne_i, lt_i, le_i, gt_i, ge_i, eq_b, dict0, sizeLine_eq, Nat.reduceAdd, Nat.reduceLeDiff, Nat.zero_add, evens, odds, abs_i, max_i]
  by_cases z1 : e = 0
  · by_cases z2 : n = 0
    · simp only [z1, z2, decide_true, if_true]
      exact last 1 0 (by omega)
    · simp only [z1, z2, decide_true, decide_false, if_true, Bool.false_eq_true, if_false]
      exact last 0 n (by omega)
  · simp only [z1, decide_false, Bool.false_eq_true, if_false]
    exact last e n (by omega)
theorem ends_ok {G : Env} {N B : Sto → PH → Prop} {R : PV → PH → Prop} {h : PH} {c f : Int} (hR : ∀ l : Line, l.1 ≠ l.2 → R (lv l) h) : Go (exs G B_ends [some (.int c), some (.int f), none, none, none, none, none] h) N B R := by
  unfold B_ends
  have m : ∀ (i : Int) (h : PH), opV .mul (.int i) (.int 48271) h = some (.int (i * 48271), h) := fun i h => mul_i (by decide)
  have last := fun (a b c : Option PV) (x y e n : Int) => ends_tail (G := G) (N := N) (B := B) (a := a) (b := b) (c := c) (x := x) (y := y) (e := e) (n := n) hR
  generalize [S.ife (.and [.cmp .eq (.var 5) (.int 0), .cmp .eq (.var 6) (.int 0)]) [.asg (.nm 5) (.int 1)] [],
  .ife (.or [.cmp .lt (.var 5) (.int 0), .and [.cmp .eq (.var 5) (.int 0), .cmp .lt (.var 6) (.int 0)]]) [.ret (.tup [.tup [.op .add (.var 3) (.var 5), .op .add (.var 4) (.var 6)], .tup [.var 3, .var 4]])] [],
  .ret (.tup [.tup [.var 3, .var 4], .tup [.op .add (.var 3) (.var 5), .op .add (.var 4) (.var 6)]])] = tl at last ⊢
  simp only [g_nil, g_cons, g_asg, g_expr, g_ret, g_retN, g_pass, g_brk, g_ife, k_var, k_non, k_bl, k_int, k_str, k_op, k_neg, k_not, k_and, k_or, k_and1, k_and2, k_or1, k_or2, k_cmp, k_idx, k_slc, k_iN, k_iS, k_tup, k_lst, k_dic, k_call, k_bi, k_bm, k_isi, k_nil, k_cons, k_T, k_cN, k_cS, k_val, k_rng1, k_rng2, k_enum, k_zip, k_nm, k_tpT, k_tsN, k_tsC, k_sub, ok_ok, List.getElem?_cons_zero, List.getElem?_cons_succ, List.set_cons_zero, List.set_cons_succ, Option.some.injEq, exists_eq_left', List.length_cons, List.length_nil, true_and, and_true, exists_eq_left, wipeP, ok_tup, lock_l, lock_t, unlock_l, unlock_t, all_l, all_t, src_t, bmT, bmV, on0, on1, on2, biV, idx_t0, idx_t1, idx_t2, neg_i, tr_b, add_i, sub_i, eq_i, ne_i, lt_i, le_i, gt_i, ge_i, eq_b, dict0, sizeLine_eq, Nat.reduceAdd, Nat.reduceLeDiff, Nat.zero_add, evens, odds, abs_i, max_i, m, mod_j (show decide ((0 : Int) < 2147483629) = true by decide), mod_j (show decide ((0 : Int) < 4) = true by decide), mod_j (show decide ((0 : Int) < 5) = true by decide), mod_j (show decide ((0 : Int) < 8) = true by decide), mod_j (show decide ((0 : Int) < 19) = true by decide),
    div_j (show decide ((0 : Int) < 4) = true by decide) (by decide), div_j (show decide ((0 : Int) < 16) = true by decide) (by decide), div_j (show decide ((0 : Int) < 80) = true by decide) (by decide), div_j (show decide ((0 : Int) < 400) = true by decide) (by decide), div_j (show decide ((0 : Int) < 3200) = true by decide) (by decide), div_j (show decide ((0 : Int) < 60800) = true by decide) (by decide)]
  split <;> exact last _ _ _ _ _ _ _
end Z
end

section
set_option Elab.async false
set_option linter.all false
set_option maxRecDepth 100000
set_option autoImplicit false
set_option maxHeartbeats 2000000
/-! P5: the law's work, walked. -/
namespace Z
open PySem L2
open En

abbrev LT := List (Line × Unit)
def Far (m : LT) : Prop := ∀ p ∈ m, p.1.1 ≠ p.1.2
def St (h : PH) (f a b sl : Nat) (cs : List Int) (n1 n2 : Nat) (hh : PH) : Prop := h <+: hh ∧ hh[f]? = some (.lst [.ref a, .ref b]) ∧ hh[sl]? = some (.lst (cs.map PV.int)) ∧
  ∃ m1 m2 : LT, hh[a]? = some (.dct (enT trU m1) 0) ∧ hh[b]? = some (.dct (enT trU m2) 0) ∧ m1.length ≤ n1 ∧ m2.length ≤ n2 ∧ Far m1 ∧ Far m2
theorem far_put {m : LT} {l : Line} (hm : Far m) (hl : l.1 ≠ l.2) : Far (aput m l ()) := fun p hp => by
  rcases mem_aput hp with rfl | hp
  · exact hl
  · exact hm p hp
def B_put : List S := [.ife (.or [.cmp .eq (.op .mod (.var 7) (.int 2)) (.var 8), .cmp .gt (.var 7) (.int 5), .var 2]) [.asg (.sub (.idx (.var 3) (.var 8)) (.tup [.var 5, .var 6])) (.bl true)] []]
theorem put_ok {G : Env} {N B : Sto → PH → Prop} {R : PV → PH → Prop} {hh : PH} {f t : Nat} {k : Int} {x0 x1 x4 x8 x9 : Option PV} {bo : Bool} {l : Line} {si : Int} {m : LT} {ds : List PV}
    (hf : hh[f]? = some (.lst ds)) (hk : 0 ≤ k) (hd : ds[k.toNat]? = some (.ref t)) (ht : hh[t]? = some (.dct (enT trU m) 0)) (hz : m.length < 1000000)
    (h1 : N [x0, x1, some (.bl bo), some (.ref f), x4, some (hv l.1), some (hv l.2), some (.int si), some (.int k), x9] hh)
    (h2 : N [x0, x1, some (.bl bo), some (.ref f), x4, some (hv l.1), some (hv l.2), some (.int si), some (.int k), x9] (hh.set t (.dct (enT trU (aput m l ())) 0))) :
    Go (forB G (.nm 8) B_put (.int k) [x0, x1, some (.bl bo), some (.ref f), x4, some (hv l.1), some (hv l.2), some (.int si), x8, x9] hh) N B R := by
  have hs := sizeLine_eq
  have pt : setV (.ref t) (.tup [hv l.1, hv l.2]) (.bl true) hh = some (hh.set t (.dct (enT trU (aput m l ())) 0)) := by
    have e : dput (enT trU m) (.tup [hv l.1, hv l.2]) (.bl true) = enT trU (aput m l ()) := dput_en (f := trU) (k := l) (v := ())
    have f : fitK (enT trU m) (.tup [hv l.1, hv l.2]) = true := fitK_en (f := trU) (k := l)
    rw [set_d ht f (by unfold enT; rw [List.length_map]; omega), e]
  have ix := idx_l hf hk hd
  unfold B_put
  simp only [g_nil, g_cons, g_asg, g_expr, g_ret, g_retN, g_pass, g_brk, g_ife, g_for, g_forB, g_whl, k_var, k_non, k_bl, k_int, k_str, k_op, k_neg, k_not, k_and, k_or, k_and1, k_and2, k_or1, k_or2, k_cmp, k_idx, k_slc, k_iN, k_iS, k_tup, k_lst, k_dic, k_call, k_bi, k_bm, k_isi, k_nil, k_cons, k_T, k_cN, k_cS, k_lc, k_lcT, k_val, k_rng1, k_rng2, k_enum, k_zip, k_nm, k_tpT, k_tsN, k_tsC, k_sub, ok_ok, List.getElem?_cons_zero, List.getElem?_cons_succ, List.set_cons_zero, List.set_cons_succ, Option.some.injEq, exists_eq_left', List.length_cons, List.length_nil, true_and, and_true, exists_eq_left, wipeP, ok_tup, lock_l, lock_t, unlock_l, unlock_t, all_l, all_t, src_t, bmT, bmV, on0, on1, on2, biV, idx_t0, idx_t1, idx_t2, neg_i, tr_b, add_i, sub_i, eq_i, ne_i, lt_i, le_i, gt_i, ge_i, eq_b, dict0, sizeLine_eq, Nat.reduceAdd, Nat.reduceLeDiff, Nat.zero_add, evens, odds, abs_i, max_i, mod_j (show decide ((0 : Int) < 2) = true by decide), ix, pt]
  repeat' split
  all_goals first | exact h1 | exact h2
theorem rng2_all : Src.all (.rng 0 1 2) = [.int 0, .int 1] := by simp [Src.all, List.range, List.range.loop]
theorem rng2_R {h : PH} {Q : Src → PH → Prop} (q : Q (.rng 0 1 2) h) : Ok (rng1R (.int 2) h) Q := q
def B_turn (fe fc : Nat) : List S := [.asg (.tp [.nm 5, .nm 6]) (.call fe [.var 4, .var 1]), .ife (.cmp .eq (.op .mod (.op .fdiv (.call fc [.var 0, .int 0]) (.int 3)) (.int 4)) (.int 1)) [.asg (.nm 5) (.tup [.var 1, .op .sub (.int 0) (.var 1)]), .asg (.nm 6) (.tup [.op .add (.op .add (.idx (.var 5) (.int 0)) (.int 1)) (.op .mod (.op .fdiv (.op .mod (.op .mul (.var 4) (.int 16807)) (.int 1000000009)) (.int 64)) (.int 9)), .op .sub (.op .add (.idx (.var 5) (.int 1)) (.op .mod (.op .fdiv (.op .mod (.op .mul (.var 4) (.int 30271)) (.int 1000003)) (.int 64)) (.int 19))) (.int 9)])] [], .asg (.nm 7) (.op .mod (.op .fdiv (.op .mod (.op .mul (.var 4) (.int 30269)) (.int 998244353)) (.int 64)) (.int 8)), .for_ (.nm 8) (.rng1 (.int 2)) B_put]
def WSto (ns : List Int) (fr : Int) (bo : Bool) (f : Nat) (σ : Sto) : Prop := ∃ x4 x5 x6 x7 x8, σ = [some (roN ns), some (.int fr), some (.bl bo), some (.ref f), x4, x5, x6, x7, x8, none]
theorem put2_ok {G : Env} {N B : Sto → PH → Prop} {R : PV → PH → Prop} {h hh : PH} {f a b sl n1 n2 : Nat} {cs ns : List Int} {fr si : Int} {x4 x8 : Option PV} {bo : Bool} {l : Line}
    (hS : St h f a b sl cs n1 n2 hh) (hl : l.1 ≠ l.2) (nab : a ≠ b) (naf : a ≠ f) (nbf : b ≠ f) (nas : a ≠ sl) (nbs : b ≠ sl) (ha : h.length ≤ a) (hb : h.length ≤ b) (z1 : n1 < 1000) (z2 : n2 < 1000)
    (hN : ∀ σ h2, WSto ns fr bo f σ → St h f a b sl cs (n1 + 1) (n2 + 1) h2 → N σ h2) :
    Go (ex G (.for_ (.nm 8) (.rng1 (.int 2)) B_put) [some (roN ns), some (.int fr), some (.bl bo), some (.ref f), x4, some (hv l.1), some (hv l.2), some (.int si), x8, none] hh) N B R := by
  rw [g_for, k_rng1, k_int]
  refine rng2_R ?_
  obtain ⟨e1, e2, e3, m1, m2, e4, e5, e6, e7, e8, e9⟩ := hS
  rw [rng2_all, g_loopC]
  refine ⟨rfl, ?_⟩
  have second : ∀ h2 (m1' : LT), h <+: h2 → h2[f]? = some (.lst [.ref a, .ref b]) → h2[sl]? = some (.lst (cs.map PV.int)) → h2[a]? = some (.dct (enT trU m1') 0) → h2[b]? = some (.dct (enT trU m2) 0) → m1'.length ≤ n1 + 1 → Far m1' →
      Go (loopL (.rng 0 1 2) (forB G (.nm 8) B_put) [.int 1] [some (roN ns), some (.int fr), some (.bl bo), some (.ref f), x4, some (hv l.1), some (hv l.2), some (.int si), some (.int 0), none] h2) N B R := by
    intro h2 m1' q1 q2 q3 q4 q5 q6 q7
    rw [g_loopC]
    refine ⟨rfl, ?_⟩
    refine put_ok (t := b) (m := m2) q2 (by decide) rfl q5 (by omega) ?_ ?_
    · rw [g_loopN]
      exact ⟨rfl, hN _ _ ⟨_, _, _, _, _, rfl⟩ ⟨q1, q2, q3, m1', m2, q4, q5, q6, by omega, q7, e9⟩⟩
    · rw [g_loopN]
      exact ⟨rfl, hN _ _ ⟨_, _, _, _, _, rfl⟩ ⟨pre_set q1 hb, at_set_ne nbf q2, at_set_ne nbs q3, m1', _, at_set_ne (Ne.symm nab) q4, at_set q5, q6, Nat.le_trans aput_len (by omega), q7, far_put e9 hl⟩⟩
  refine put_ok (t := a) (m := m1) e2 (by decide) rfl e4 (by omega) ?_ ?_
  · exact second hh m1 e1 e2 e3 e4 e5 (by omega) e8
  · exact second _ _ (pre_set e1 ha) (at_set_ne naf e2) (at_set_ne nas e3) (at_set e4) (at_set_ne nab e5) (Nat.le_trans aput_len (by omega)) (far_put e8 hl)
theorem turn_ok {G : Env} {fe fc : Nat} (SE : SpecEnds G fe) (SC : SpecCell G fc) {N B : Sto → PH → Prop} {R : PV → PH → Prop} {h hh : PH} {f a b sl n1 n2 : Nat} {cs ns : List Int} {fr c : Int} {bo : Bool} {σ : Sto}
    (hσ : WSto ns fr bo f σ) (hS : St h f a b sl cs n1 n2 hh) (nab : a ≠ b) (naf : a ≠ f) (nbf : b ≠ f) (nas : a ≠ sl) (nbs : b ≠ sl) (ha : h.length ≤ a) (hb : h.length ≤ b) (z1 : n1 < 1000) (z2 : n2 < 1000)
    (hN : ∀ σ h2, WSto ns fr bo f σ → St h f a b sl cs (n1 + 1) (n2 + 1) h2 → N σ h2) :
    Go (forB G (.nm 4) (B_turn fe fc) (.int c) σ hh) N B R := by
  obtain ⟨x4, x5, x6, x7, x8, rfl⟩ := hσ
  have last : ∀ (l : Line) (si : Int) (x8 : Option PV), l.1 ≠ l.2 → Go (ex G (.for_ (.nm 8) (.rng1 (.int 2)) B_put) [some (roN ns), some (.int fr), some (.bl bo), some (.ref f), some (.int c), some (hv l.1), some (hv l.2), some (.int si), x8, none] hh) N B R :=
    fun l si x8 hl => put2_ok hS hl nab naf nbf nas nbs ha hb z1 z2 hN
  have m1 : ∀ (i : Int) (h : PH), opV .mul (.int i) (.int 16807) h = some (.int (i * 16807), h) := fun i h => mul_i (by decide)
  have m2 : ∀ (i : Int) (h : PH), opV .mul (.int i) (.int 30271) h = some (.int (i * 30271), h) := fun i h => mul_i (by decide)
  have m3 : ∀ (i : Int) (h : PH), opV .mul (.int i) (.int 30269) h = some (.int (i * 30269), h) := fun i h => mul_i (by decide)
  rw [g_forB]
  unfold B_turn
  generalize S.for_ (.nm 8) (.rng1 (.int 2)) B_put = tl at last ⊢
  simp only [g_nil, g_cons, g_asg, g_expr, g_ret, g_retN, g_pass, g_brk, g_ife, k_var, k_non, k_bl, k_int, k_str, k_op, k_neg, k_not, k_and, k_or, k_and1, k_and2, k_or1, k_or2, k_cmp, k_idx, k_slc, k_iN, k_iS, k_tup, k_lst, k_dic, k_call, k_bi, k_bm, k_isi, k_nil, k_cons, k_T, k_cN, k_cS, k_val, k_rng1, k_rng2, k_enum, k_zip, k_nm, k_tpT, k_tsN, k_tsC, k_sub, ok_ok, List.getElem?_cons_zero, List.getElem?_cons_succ, List.set_cons_zero, List.set_cons_succ, Option.some.injEq, exists_eq_left', List.length_cons, List.length_nil, true_and, and_true, exists_eq_left, wipeP, ok_tup, lock_l, lock_t, unlock_l, unlock_t, all_l, all_t, src_t, bmT, bmV, on0, on1, on2, biV, idx_t0, idx_t1, idx_t2, neg_i, tr_b, add_i, sub_i, eq_i, ne_i, lt_i, le_i, gt_i, ge_i, eq_b, dict0, sizeLine_eq, Nat.reduceAdd, Nat.reduceLeDiff, Nat.zero_add, evens, odds, abs_i, max_i]
  refine SE _ _ _ _ fun l hl => ?_
  simp only [g_nil, g_cons, g_asg, g_expr, g_ret, g_retN, g_pass, g_brk, g_ife, k_var, k_non, k_bl, k_int, k_str, k_op, k_neg, k_not, k_and, k_or, k_and1, k_and2, k_or1, k_or2, k_cmp, k_idx, k_slc, k_iN, k_iS, k_tup, k_lst, k_dic, k_call, k_bi, k_bm, k_isi, k_nil, k_cons, k_T, k_cN, k_cS, k_val, k_rng1, k_rng2, k_enum, k_zip, k_nm, k_tpT, k_tsN, k_tsC, k_sub, ok_ok, List.getElem?_cons_zero, List.getElem?_cons_succ, List.set_cons_zero, List.set_cons_succ, Option.some.injEq, exists_eq_left', List.length_cons, List.length_nil, true_and, and_true, exists_eq_left, wipeP, ok_tup, lock_l, lock_t, unlock_l, unlock_t, all_l, all_t, src_t, bmT, bmV, on0, on1, on2, biV, idx_t0, idx_t1, idx_t2, neg_i, tr_b, add_i, sub_i, eq_i, ne_i, lt_i, le_i, gt_i, ge_i, eq_b, dict0, sizeLine_eq, Nat.reduceAdd, Nat.reduceLeDiff, Nat.zero_add, evens, odds, abs_i, max_i, lv]
  refine SC _ _ _ _ (by decide) fun i => ?_
  simp only [g_nil, g_cons, g_asg, g_expr, g_ret, g_retN, g_pass, g_brk, g_ife, k_var, k_non, k_bl, k_int, k_str, k_op, k_neg, k_not, k_and, k_or, k_and1, k_and2, k_or1, k_or2, k_cmp, k_idx, k_slc, k_iN, k_iS, k_tup, k_lst, k_dic, k_call, k_bi, k_bm, k_isi, k_nil, k_cons, k_T, k_cN, k_cS, k_val, k_rng1, k_rng2, k_enum, k_zip, k_nm, k_tpT, k_tsN, k_tsC, k_sub, ok_ok, List.getElem?_cons_zero, List.getElem?_cons_succ, List.set_cons_zero, List.set_cons_succ, Option.some.injEq, exists_eq_left', List.length_cons, List.length_nil, true_and, and_true, exists_eq_left, wipeP, ok_tup, lock_l, lock_t, unlock_l, unlock_t, all_l, all_t, src_t, bmT, bmV, on0, on1, on2, biV, idx_t0, idx_t1, idx_t2, neg_i, tr_b, add_i, sub_i, eq_i, ne_i, lt_i, le_i, gt_i, ge_i, eq_b, dict0, sizeLine_eq, Nat.reduceAdd, Nat.reduceLeDiff, Nat.zero_add, evens, odds, abs_i, max_i, hv, m1, m2, m3, mod_j (show decide ((0 : Int) < 4) = true by decide), mod_j (show decide ((0 : Int) < 1000000009) = true by decide), mod_j (show decide ((0 : Int) < 9) = true by decide), mod_j (show decide ((0 : Int) < 1000003) = true by decide), mod_j (show decide ((0 : Int) < 19) = true by decide), mod_j (show decide ((0 : Int) < 998244353) = true by decide), mod_j (show decide ((0 : Int) < 8) = true by decide),
    div_j (show decide ((0 : Int) < 3) = true by decide) (by decide), div_j (show decide ((0 : Int) < 64) = true by decide) (by decide)]
  split
  · refine last ((fr, 0 - fr), (fr + 1 + c * 16807 % 1000000009 / 64 % 9, 0 - fr + c * 30271 % 1000003 / 64 % 19 - 9)) _ _ ?_
    intro z
    simp only [Prod.mk.injEq] at z
    omega
  · exact last l _ _ hl
theorem put_rng {h : PH} : (Src.rng 0 1 2).lock h = h := rfl
def B_work (fe fc ff : Nat) : List S := [.asg (.nm 1) (.call ff [.call fc [.var 0, .int 1]]),
  .asg (.nm 2) (.cmp .eq (.op .mod (.call fc [.var 0, .int 0]) (.int 3)) (.int 1)),
  .asg (.nm 3) (.lst [.dic [], .dic []]),
  .for_ (.nm 4) (.val (.slc (.var 0) (some (.int 2)) (some (.int 62)))) (B_turn fe fc),
  .ret (.lc (.nm 9) (.val (.var 3)) none (.bi .sorted [.var 9]) [9])]
theorem cut_len {α : Type} {xs : List α} (lo hi : Int) (h1 : 0 ≤ lo) (h2 : lo ≤ hi) : (cutL xs (some lo) (some hi)).length ≤ (hi - lo).toNat := by
  unfold cutL HT.sIx
  rw [List.length_take, List.length_drop]
  dsimp only
  rw [if_neg (by omega), if_neg (by omega)]
  omega
section
variable {s : Src} {turn : PV → PH → Res (Option PV)} {Q : List PV → PH → Prop} {acc : List PV} {h : PH} {x : PV} {xs : List PV}
theorem k_loopCN : Ok (loopC s turn [] acc h) Q = (s.ok h = true ∧ Q acc (s.unlock h)) := by
  simp only [loopC]
  by_cases e : s.ok h = true
  · rw [if_pos e]; simp [Ok, e]
  · rw [if_neg e]; simp [Ok, e]
theorem k_loopCC : Ok (loopC s turn (x :: xs) acc h) Q = (s.ok h = true ∧ Ok (turn x h) fun o h' => match o with
    | some v => acc.length < sizeLine ∧ Ok (loopC s turn xs (acc ++ [v]) h') Q
    | none => Ok (loopC s turn xs acc h') Q) := by
  simp only [loopC]
  by_cases e : s.ok h = true
  · rw [if_pos e]
    cases turn x h with
    | ok o h' =>
      cases o with
      | none => simp [Ok, e]
      | some v =>
        dsimp only
        by_cases z : acc.length < sizeLine
        · rw [if_pos z]; simp [Ok, e, z]
        · rw [if_neg z]; simp [Ok, e, z]
    | exc _ _ => simp [Ok, e]
    | bad => simp [Ok, e]
  · rw [if_neg e]; simp [Ok, e]
end
theorem keys_lt (m : LT) : (enT trU m).map (·.1) = (m.map (·.1)).map lv := by
  unfold enT
  rw [List.map_map, List.map_map]
  rfl
def SpecWork (G : Env) (fi : Nat) : Prop := ∀ (h : PH) (ns : List Int) (Q : PV → PH → Prop), (∀ h' r a b (A C : List Line), h <+: h' → h'[r]? = some (.lst [.ref a, .ref b]) → h'[a]? = some (.lst (A.map lv)) → h'[b]? = some (.lst (C.map lv)) → A.length ≤ 60 → C.length ≤ 60 → (∀ l ∈ A, l.1 ≠ l.2) → (∀ l ∈ C, l.1 ≠ l.2) → Q (.ref r) h') → Ok (G.call fi [roN ns] h) Q
theorem cut_ints (ns : List Int) (lo hi : Option Int) : cutL (ns.map PV.int) lo hi = (cutL ns lo hi).map PV.int := by
  unfold cutL
  rw [List.length_map, List.map_take, List.map_drop]
theorem work_ok {G : Env} {fe fc ff : Nat} (SE : SpecEnds G fe) (SC : SpecCell G fc) (SF : SpecFar G ff) {N B : Sto → PH → Prop} {R : PV → PH → Prop} {h : PH} {ns : List Int}
    (hR : ∀ h' r a b (A C : List Line), h <+: h' → h'[r]? = some (.lst [.ref a, .ref b]) → h'[a]? = some (.lst (A.map lv)) → h'[b]? = some (.lst (C.map lv)) → A.length ≤ 60 → C.length ≤ 60 → (∀ l ∈ A, l.1 ≠ l.2) → (∀ l ∈ C, l.1 ≠ l.2) → R (.ref r) h') :
    Go (exs G (B_work fe fc ff) [some (roN ns), none, none, none, none, none, none, none, none, none] h) N B R := by
  have hs := sizeLine_eq
  unfold B_work
  simp only [g_nil, g_cons, g_asg, g_expr, g_ret, g_retN, g_pass, g_brk, g_ife, k_var, k_non, k_bl, k_int, k_str, k_op, k_neg, k_not, k_and, k_or, k_and1, k_and2, k_or1, k_or2, k_cmp, k_idx, k_slc, k_iN, k_iS, k_tup, k_lst, k_dic, k_call, k_bi, k_bm, k_isi, k_nil, k_cons, k_T, k_cN, k_cS, k_val, k_rng1, k_rng2, k_enum, k_zip, k_nm, k_tpT, k_tsN, k_tsC, k_sub, ok_ok, List.getElem?_cons_zero, List.getElem?_cons_succ, List.set_cons_zero, List.set_cons_succ, Option.some.injEq, exists_eq_left', List.length_cons, List.length_nil, true_and, and_true, exists_eq_left, wipeP, ok_tup, lock_l, lock_t, unlock_l, unlock_t, all_l, all_t, src_t, bmT, bmV, on0, on1, on2, biV, idx_t0, idx_t1, idx_t2, neg_i, tr_b, add_i, sub_i, eq_i, ne_i, lt_i, le_i, gt_i, ge_i, eq_b, dict0, sizeLine_eq, Nat.reduceAdd, Nat.reduceLeDiff, Nat.zero_add, evens, odds, abs_i, max_i]
  refine SC _ _ _ _ (by decide) fun i => ?_
  refine SF _ _ _ fun fr h1 p1 => ?_
  refine SC _ _ _ _ (by decide) fun i2 => ?_
  simp only [g_nil, g_cons, g_asg, g_expr, g_ret, g_retN, g_pass, g_brk, g_ife, k_var, k_non, k_bl, k_int, k_str, k_op, k_neg, k_not, k_and, k_or, k_and1, k_and2, k_or1, k_or2, k_cmp, k_idx, k_slc, k_iN, k_iS, k_tup, k_lst, k_dic, k_call, k_bi, k_bm, k_isi, k_nil, k_cons, k_T, k_cN, k_cS, k_val, k_rng1, k_rng2, k_enum, k_zip, k_nm, k_tpT, k_tsN, k_tsC, k_sub, ok_ok, List.getElem?_cons_zero, List.getElem?_cons_succ, List.set_cons_zero, List.set_cons_succ, Option.some.injEq, exists_eq_left', List.length_cons, List.length_nil, true_and, and_true, exists_eq_left, wipeP, ok_tup, lock_l, lock_t, unlock_l, unlock_t, all_l, all_t, src_t, bmT, bmV, on0, on1, on2, biV, idx_t0, idx_t1, idx_t2, neg_i, tr_b, add_i, sub_i, eq_i, ne_i, lt_i, le_i, gt_i, ge_i, eq_b, dict0, sizeLine_eq, Nat.reduceAdd, Nat.reduceLeDiff, Nat.zero_add, evens, odds, abs_i, max_i, mod_j (show decide ((0 : Int) < 3) = true by decide)]
  rw [g_for]
  have sl : ∀ h, slcV (roN ns) (some 2) (some 62) h = some (.ref h.length, h ++ [.lst ((cutL ns (some 2) (some 62)).map PV.int)]) := fun h => by rw [← cut_ints]; rfl
  have iR : ∀ (i : Int) (h : PH) (Q : Option Int → PH → Prop), Ok (intR (.int i) h) Q = Q (some i) h := fun _ _ _ => rfl
  simp only [g_nil, g_cons, g_asg, g_expr, g_ret, g_retN, g_pass, g_brk, g_ife, k_var, k_non, k_bl, k_int, k_str, k_op, k_neg, k_not, k_and, k_or, k_and1, k_and2, k_or1, k_or2, k_cmp, k_idx, k_slc, k_iN, k_iS, k_tup, k_lst, k_dic, k_call, k_bi, k_bm, k_isi, k_nil, k_cons, k_T, k_cN, k_cS, k_val, k_rng1, k_rng2, k_enum, k_zip, k_nm, k_tpT, k_tsN, k_tsC, k_sub, ok_ok, List.getElem?_cons_zero, List.getElem?_cons_succ, List.set_cons_zero, List.set_cons_succ, Option.some.injEq, exists_eq_left', List.length_cons, List.length_nil, true_and, and_true, exists_eq_left, wipeP, ok_tup, lock_l, lock_t, unlock_l, unlock_t, all_l, all_t, src_t, bmT, bmV, on0, on1, on2, biV, idx_t0, idx_t1, idx_t2, neg_i, tr_b, add_i, sub_i, eq_i, ne_i, lt_i, le_i, gt_i, ge_i, eq_b, dict0, sizeLine_eq, Nat.reduceAdd, Nat.reduceLeDiff, Nat.zero_add, evens, odds, abs_i, max_i, k_iS, iR, sl]
  have cl : (cutL ns (some 2) (some 62)).length ≤ 60 := cut_len 2 62 (by decide) (by decide)
  generalize cutL ns (some 2) (some 62) = cs at cl ⊢
  generalize decide (i2 % 3 = 1) = bo
  have p2 : h1 <+: h1 ++ [PO.dct [] 0] ++ [PO.dct [] 0] ++ [PO.lst [PV.ref h1.length, PV.ref (h1 ++ [PO.dct [] 0]).length]] ++ [PO.lst (cs.map PV.int)] := pre_app (pre_app (pre_app (List.prefix_append _ _)))
  have ea : (h1 ++ [PO.dct [] 0] ++ [PO.dct [] 0] ++ [PO.lst [PV.ref h1.length, PV.ref (h1 ++ [PO.dct [] 0]).length]] ++ [PO.lst (cs.map PV.int)])[h1.length]? = some (.dct (enT trU ([] : LT)) 0) := at_app (at_app (at_app at_new))
  have eb : (h1 ++ [PO.dct [] 0] ++ [PO.dct [] 0] ++ [PO.lst [PV.ref h1.length, PV.ref (h1 ++ [PO.dct [] 0]).length]] ++ [PO.lst (cs.map PV.int)])[(h1 ++ [PO.dct [] 0]).length]? = some (.dct (enT trU ([] : LT)) 0) := at_app (at_app at_new)
  have ef : (h1 ++ [PO.dct [] 0] ++ [PO.dct [] 0] ++ [PO.lst [PV.ref h1.length, PV.ref (h1 ++ [PO.dct [] 0]).length]] ++ [PO.lst (cs.map PV.int)])[(h1 ++ [PO.dct [] 0] ++ [PO.dct [] 0]).length]? = some (.lst [PV.ref h1.length, PV.ref (h1 ++ [PO.dct [] 0]).length]) := at_app at_new
  have es : (h1 ++ [PO.dct [] 0] ++ [PO.dct [] 0] ++ [PO.lst [PV.ref h1.length, PV.ref (h1 ++ [PO.dct [] 0]).length]] ++ [PO.lst (cs.map PV.int)])[(h1 ++ [PO.dct [] 0] ++ [PO.dct [] 0] ++ [PO.lst [PV.ref h1.length, PV.ref (h1 ++ [PO.dct [] 0]).length]]).length]? = some (.lst (cs.map PV.int)) := at_new
  have nb : (h1 ++ [PO.dct [] 0]).length = h1.length + 1 := by simp
  have nf : (h1 ++ [PO.dct [] 0] ++ [PO.dct [] 0]).length = h1.length + 2 := by simp
  have ns' : (h1 ++ [PO.dct [] 0] ++ [PO.dct [] 0] ++ [PO.lst [PV.ref h1.length, PV.ref (h1 ++ [PO.dct [] 0]).length]]).length = h1.length + 3 := by simp
  generalize h1 ++ [PO.dct [] 0] ++ [PO.dct [] 0] ++ [PO.lst [PV.ref h1.length, PV.ref (h1 ++ [PO.dct [] 0]).length]] ++ [PO.lst (cs.map PV.int)] = H at p2 ea eb ef es ⊢
  generalize (h1 ++ [PO.dct [] 0] ++ [PO.dct [] 0] ++ [PO.lst [PV.ref h1.length, PV.ref (h1 ++ [PO.dct [] 0]).length]]).length = q at ns' es ⊢
  generalize (h1 ++ [PO.dct [] 0] ++ [PO.dct [] 0]).length = f at nf ef ⊢
  generalize (h1 ++ [PO.dct [] 0]).length = b at nb eb ef ⊢
  refine ⟨_, src_l es, ?_⟩
  simp only [lock_l]
  refine for_inv (s := .lst q (cs.map PV.int)) (fun j σ hh => WSto ns fr bo f σ ∧ St h1 f h1.length b q cs j j hh) ?_ ?_ ?_
  · exact ⟨⟨_, _, _, _, _, rfl⟩, p2, ef, es, [], [], ea, eb, by simp, by simp, fun p hp => by simp at hp, fun p hp => by simp at hp⟩
  · rintro j x σ hh ex ⟨w, st⟩
    refine ⟨ok_l st.2.2.1, ?_⟩
    have ex : (cs.map PV.int)[j]? = some x := ex
    rw [List.getElem?_map, Option.map_eq_some_iff] at ex
    obtain ⟨c, ec, rfl⟩ := ex
    have hj : j < cs.length := (List.getElem?_eq_some_iff.mp ec).1
    exact turn_ok SE SC w st (by omega) (by omega) (by omega) (by omega) (by omega) (by omega) (by omega) (by omega) (by omega) fun σ h2 w st => ⟨w, st⟩
  · rintro σ hh ⟨⟨x4, x5, x6, x7, x8, rfl⟩, st⟩
    refine ⟨ok_l st.2.2.1, ?_⟩
    have hlen : (Src.lst q (cs.map PV.int)).all.length = cs.length := by simp [Src.all]
    rw [hlen] at st
    obtain ⟨e1, e2, e3, m1, m2, e4, e5, e6, e7, e8, e9⟩ := st
    rw [unlock_l, k_lc, k_val, k_var]
    refine ⟨_, rfl, _, src_l e2, ?_⟩
    simp only [all_l, lock_l]
    have s1 : sortedV (.ref h1.length) hh = some (.ref hh.length, hh ++ [.lst ((sortE (m1.map (·.1))).map lv)]) := srt_d e4 (by rw [keys_lt]; exact sortV_en hh _)
    have s2 : sortedV (.ref b) (hh ++ [.lst ((sortE (m1.map (·.1))).map lv)]) = some (.ref (hh ++ [PO.lst ((sortE (m1.map (·.1))).map lv)]).length, hh ++ [.lst ((sortE (m1.map (·.1))).map lv)] ++ [.lst ((sortE (m2.map (·.1))).map lv)]) := srt_d (at_app e5) (by rw [keys_lt]; exact sortV_en _ _)
    rw [k_loopCC]
    refine ⟨ok_l e2, ?_⟩
    rw [k_lcT]
    simp only [g_nil, g_cons, g_asg, g_expr, g_ret, g_retN, g_pass, g_brk, g_ife, k_var, k_non, k_bl, k_int, k_str, k_op, k_neg, k_not, k_and, k_or, k_and1, k_and2, k_or1, k_or2, k_cmp, k_idx, k_slc, k_iN, k_iS, k_tup, k_lst, k_dic, k_call, k_bi, k_bm, k_isi, k_nil, k_cons, k_T, k_cN, k_cS, k_val, k_rng1, k_rng2, k_enum, k_zip, k_nm, k_tpT, k_tsN, k_tsC, k_sub, ok_ok, List.getElem?_cons_zero, List.getElem?_cons_succ, List.set_cons_zero, List.set_cons_succ, Option.some.injEq, exists_eq_left', List.length_cons, List.length_nil, true_and, and_true, exists_eq_left, wipeP, ok_tup, lock_l, lock_t, unlock_l, unlock_t, all_l, all_t, src_t, bmT, bmV, on0, on1, on2, biV, idx_t0, idx_t1, idx_t2, neg_i, tr_b, add_i, sub_i, eq_i, ne_i, lt_i, le_i, gt_i, ge_i, eq_b, dict0, sizeLine_eq, Nat.reduceAdd, Nat.reduceLeDiff, Nat.zero_add, evens, odds, abs_i, max_i, s1]
    rw [if_pos trivial]
    refine ⟨by decide, ?_⟩
    rw [k_loopCC]
    refine ⟨ok_l (at_app e2), ?_⟩
    rw [k_lcT]
    simp only [g_nil, g_cons, g_asg, g_expr, g_ret, g_retN, g_pass, g_brk, g_ife, k_var, k_non, k_bl, k_int, k_str, k_op, k_neg, k_not, k_and, k_or, k_and1, k_and2, k_or1, k_or2, k_cmp, k_idx, k_slc, k_iN, k_iS, k_tup, k_lst, k_dic, k_call, k_bi, k_bm, k_isi, k_nil, k_cons, k_T, k_cN, k_cS, k_val, k_rng1, k_rng2, k_enum, k_zip, k_nm, k_tpT, k_tsN, k_tsC, k_sub, ok_ok, List.getElem?_cons_zero, List.getElem?_cons_succ, List.set_cons_zero, List.set_cons_succ, Option.some.injEq, exists_eq_left', List.length_cons, List.length_nil, true_and, and_true, exists_eq_left, wipeP, ok_tup, lock_l, lock_t, unlock_l, unlock_t, all_l, all_t, src_t, bmT, bmV, on0, on1, on2, biV, idx_t0, idx_t1, idx_t2, neg_i, tr_b, add_i, sub_i, eq_i, ne_i, lt_i, le_i, gt_i, ge_i, eq_b, dict0, sizeLine_eq, Nat.reduceAdd, Nat.reduceLeDiff, Nat.zero_add, evens, odds, abs_i, max_i, s2]
    rw [if_pos trivial]
    refine ⟨by simp, ?_⟩
    rw [k_loopCN]
    refine ⟨ok_l (at_app (at_app e2)), ?_⟩
    rw [unlock_l]
    have g : ∀ (m : LT), m.length ≤ cs.length → (sortE (m.map (·.1))).length ≤ 60 := fun m hm => by
      rw [(sortE_perm _).length_eq, List.length_map]
      omega
    have d : ∀ (m : LT), Far m → ∀ l ∈ sortE (m.map (·.1)), l.1 ≠ l.2 := fun m hm l hl => by
      obtain ⟨p, hp, rfl⟩ := List.mem_map.mp ((sortE_perm _).mem_iff.mp hl)
      exact hm p hp
    exact hR _ _ _ _ _ _ (p1.trans (pre_app (pre_app (pre_app e1)))) at_new (at_app (at_app at_new)) (at_app at_new) (g m1 e6) (g m2 e7) (d m1 e8) (d m2 e9)
end Z
end

section
set_option Elab.async false
set_option linter.all false
set_option maxRecDepth 100000
set_option autoImplicit false
set_option maxHeartbeats 2000000
/-! M1: groups of lines, plain. -/
namespace Z
open PySem L2
open En

abbrev Ks := List Hole
theorem nodup_len : ∀ (xs ys : Ks), xs.Nodup → (∀ x ∈ xs, x ∈ ys) → xs.length ≤ ys.length
  | [], _, _, _ => Nat.zero_le _
  | x :: r, ys, nd, sub => by
    rw [List.nodup_cons] at nd
    have h := nodup_len r (ys.erase x) nd.2 fun y hy => (List.mem_erase_of_ne (fun (z : y = x) => nd.1 (z ▸ hy))).mpr (sub y (List.mem_cons_of_mem _ hy))
    have hm := sub x List.mem_cons_self
    rw [List.length_erase_of_mem hm] at h
    have := List.length_pos_of_mem hm
    rw [List.length_cons]
    omega
theorem nodup_perm : ∀ (xs ys : Ks), xs.Nodup → ys.Nodup → (∀ x, x ∈ xs ↔ x ∈ ys) → xs.Perm ys
  | [], ys, _, _, s => by
    cases ys with
    | nil => exact List.Perm.refl _
    | cons y r => exact absurd ((s y).mpr List.mem_cons_self) List.not_mem_nil
  | x :: r, ys, nd, nd2, s => by
    rw [List.nodup_cons] at nd
    have hm := (s x).mp List.mem_cons_self
    have h := nodup_perm r (ys.erase x) nd.2 (nd2.erase x) fun y => by
      rw [List.Nodup.mem_erase_iff nd2, ← s y, List.mem_cons]
      constructor
      · intro hy
        exact ⟨fun z => nd.1 (z ▸ hy), .inr hy⟩
      · rintro ⟨n, rfl | hy⟩
        · exact absurd rfl n
        · exact hy
    exact (List.Perm.cons x h).trans (List.perm_cons_erase hm).symm
def ClosedL (L : List Line) (X : Hole → Prop) : Prop := ∀ l ∈ L, X l.1 ↔ X l.2
structure Part (L : List Line) (gs : List Ks) : Prop where
  nd : ∀ g ∈ gs, g.Nodup
  dj : gs.Pairwise fun a b => ∀ x ∈ a, x ∉ b
  ln : ∀ l ∈ L, ∃ g ∈ gs, l.1 ∈ g ∧ l.2 ∈ g
  cn : ∀ g ∈ gs, ∀ X : Hole → Prop, ClosedL L X → (∃ x ∈ g, X x) → ∀ x ∈ g, X x
  ed : ∀ g ∈ gs, ∀ x ∈ g, ∃ l ∈ L, x = l.1 ∨ x = l.2
  ne : ∀ g ∈ gs, g ≠ []
structure Gr (L : List Line) (s : Hole) (g : Ks) : Prop where
  nd : g.Nodup
  st : s ∈ g
  cl : ClosedL L (· ∈ g)
  mn : ∀ X : Hole → Prop, ClosedL L X → X s → ∀ x ∈ g, X x
theorem part_nil {gs : List Ks} (P : Part [] gs) : gs = [] := by
  cases gs with
  | nil => rfl
  | cons g r =>
    have hg : g ∈ g :: r := List.mem_cons_self
    cases e : g with
    | nil => exact absurd e (P.ne g hg)
    | cons x t =>
      obtain ⟨l, hl, _⟩ := P.ed g hg x (by rw [e]; exact List.mem_cons_self)
      cases hl
theorem part_step {L : List Line} {gs : List Ks} {l0 : Line} {g : Ks} (P : Part L gs) (h0 : l0 ∈ L) (gr : Gr L l0.1 g) (F : Ks → Int) (hF : ∀ a b : Ks, a.Perm b → F a = F b) :
    ∃ gs', Part (L.filter fun l => decide (l.1 ∉ g)) gs' ∧ (gs.map F).sum = F g + (gs'.map F).sum := by
  obtain ⟨g0, hg0, h1, h2⟩ := P.ln l0 h0
  obtain ⟨pre, post, e⟩ := List.append_of_mem hg0
  have dj := P.dj
  rw [e, List.pairwise_append, List.pairwise_cons] at dj
  obtain ⟨d1, ⟨d2, d3⟩, d4⟩ := dj
  have D : ∀ g' ∈ pre ++ post, ∀ x ∈ g', x ∉ g0 := fun g' hg x hx => by
    rcases List.mem_append.mp hg with hg | hg
    · exact d4 g' hg g0 List.mem_cons_self x hx
    · exact fun z => d2 g' hg x z hx
  have sub : ∀ g' ∈ pre ++ post, g' ∈ gs := fun g' hg => by
    rw [e]
    rcases List.mem_append.mp hg with hg | hg
    · exact List.mem_append_left _ hg
    · exact List.mem_append_right _ (List.mem_cons_of_mem _ hg)
  have grp : ∀ l ∈ L, (l.1 ∈ g0 ∧ l.2 ∈ g0) ∨ ∃ g' ∈ pre ++ post, l.1 ∈ g' ∧ l.2 ∈ g' := fun l hl => by
    obtain ⟨g', hg', a, b⟩ := P.ln l hl
    rw [e] at hg'
    rcases List.mem_append.mp hg' with hg' | hg'
    · exact .inr ⟨g', List.mem_append_left _ hg', a, b⟩
    · rcases List.mem_cons.mp hg' with rfl | hg'
      · exact .inl ⟨a, b⟩
      · exact .inr ⟨g', List.mem_append_right _ hg', a, b⟩
  have c0 : ClosedL L (· ∈ g0) := fun l hl => by
    rcases grp l hl with ⟨a, b⟩ | ⟨g', hg', a, b⟩
    · exact ⟨fun _ => b, fun _ => a⟩
    · exact ⟨fun z => absurd z (D g' hg' _ a), fun z => absurd z (D g' hg' _ b)⟩
  have s1 : ∀ x ∈ g, x ∈ g0 := gr.mn _ c0 h1
  have s2 : ∀ x ∈ g0, x ∈ g := P.cn g0 hg0 _ gr.cl ⟨_, h1, gr.st⟩
  have pm : g.Perm g0 := nodup_perm _ _ gr.nd (P.nd g0 hg0) fun x => ⟨s1 x, s2 x⟩
  refine ⟨pre ++ post, ⟨fun g' hg => P.nd g' (sub g' hg), ?_, ?_, ?_, ?_, fun g' hg => P.ne g' (sub g' hg)⟩, ?_⟩
  · rw [List.pairwise_append]
    exact ⟨d1, d3, fun a ha b hb => d4 a ha b (List.mem_cons_of_mem _ hb)⟩
  · intro l hl
    obtain ⟨hl, hn⟩ := List.mem_filter.mp hl
    have hn := of_decide_eq_true hn
    rcases grp l hl with ⟨a, _⟩ | r
    · exact absurd (s2 _ a) hn
    · exact r
  · intro g' hg X cX ⟨x, hx, Xx⟩ y hy
    have := P.cn g' (sub g' hg) (fun z => X z ∧ z ∉ g0) (fun l hl => by
      rcases grp l hl with ⟨a, b⟩ | ⟨g2, hg2, a, b⟩
      · exact ⟨fun z => absurd a z.2, fun z => absurd b z.2⟩
      · have na := D g2 hg2 _ a
        have nb := D g2 hg2 _ b
        have := cX l (List.mem_filter.mpr ⟨hl, decide_eq_true fun z => na (s1 _ z)⟩)
        exact ⟨fun z => ⟨this.mp z.1, nb⟩, fun z => ⟨this.mpr z.1, na⟩⟩) ⟨x, hx, Xx, D g' hg x hx⟩ y hy
    exact this.1
  · intro g' hg x hx
    obtain ⟨l, hl, hxl⟩ := P.ed g' (sub g' hg) x hx
    refine ⟨l, List.mem_filter.mpr ⟨hl, decide_eq_true fun z => ?_⟩, hxl⟩
    have z1 := s1 _ z
    have z2 := (c0 l hl).mp z1
    rcases hxl with rfl | rfl
    · exact D g' hg _ hx z1
    · exact D g' hg _ hx z2
  · rw [e, hF g g0 pm]
    simp only [List.map_append, List.map_cons, List.sum_append, List.sum_cons]
    omega
/-! ### groupsP makes such groups -/
def keysG (g : Grp) : Ks := g.map (·.1)
theorem touch_iff {l : Line} {g : Grp} : touch l g = true ↔ l.1 ∈ keysG g ∨ l.2 ∈ keysG g := by
  have h : ∀ p : Hole, (aget g p).isSome = true ↔ p ∈ keysG g := fun p => by
    cases e : aget g p with
    | none => simp; exact aget_none.mp e
    | some v => simp; exact List.mem_map.mpr ⟨_, aget_some e, rfl⟩
  unfold touch
  rw [Bool.or_eq_true, h, h]
theorem mem_joinG {x : Hole} : ∀ (g j : Grp), x ∈ keysG (joinG j g) ↔ x ∈ keysG j ∨ x ∈ keysG g
  | [], j => by simp [joinG, keysG]
  | p :: r, j => by
    show x ∈ keysG (joinG (aput j p.1 p.2) r) ↔ _
    rw [mem_joinG r]
    unfold keysG
    rw [aput_keys, List.map_cons, List.mem_cons]
    split
    · rename_i h
      constructor
      · rintro (h | h)
        · exact .inl h
        · exact .inr (.inr h)
      · rintro (h' | rfl | h')
        · exact .inl h'
        · exact .inl h
        · exact .inr h'
    · rw [List.mem_append, List.mem_singleton, or_assoc]
theorem nd_joinG : ∀ (g j : Grp), (keysG j).Nodup → (keysG (joinG j g)).Nodup
  | [], j, h => h
  | p :: r, j, h => nd_joinG r (aput j p.1 p.2) (aput_nodup h)
theorem mem_fold {x : Hole} : ∀ (gs : List Grp) (j : Grp), x ∈ keysG (gs.foldl joinG j) ↔ x ∈ keysG j ∨ ∃ g ∈ gs, x ∈ keysG g
  | [], j => by simp
  | g :: gs, j => by
    rw [List.foldl_cons, mem_fold gs, mem_joinG]
    simp only [List.mem_cons, exists_eq_or_imp, or_assoc]
theorem nd_fold : ∀ (gs : List Grp) (j : Grp), (keysG j).Nodup → (keysG (gs.foldl joinG j)).Nodup
  | [], j, h => h
  | g :: gs, j, h => nd_fold gs _ (nd_joinG g j h)
theorem mem_newG {x : Hole} {l : Line} : x ∈ keysG (newG l) ↔ x = l.1 ∨ x = l.2 := by
  unfold newG keysG
  rw [aput_keys, aput_keys]
  have e : (([] : Grp).map (·.1)) = [] := rfl
  rw [e]
  simp only [List.not_mem_nil, if_false, List.nil_append, List.mem_singleton]
  split
  · rename_i h
    rw [List.mem_singleton, h, or_self]
  · simp
theorem nd_newG (l : Line) : (keysG (newG l)).Nodup := aput_nodup (aput_nodup List.nodup_nil)
theorem pair_ne {α : Type} {R : α → α → Prop} (sy : ∀ a b, R a b → R b a) : ∀ {gs : List α}, gs.Pairwise R → ∀ a ∈ gs, ∀ b ∈ gs, a ≠ b → R a b
  | [], _, a, ha, _, _, _ => by cases ha
  | x :: r, h, a, ha, b, hb, n => by
    rw [List.pairwise_cons] at h
    rcases List.mem_cons.mp ha with rfl | ha
    · rcases List.mem_cons.mp hb with rfl | hb
      · exact absurd rfl n
      · exact h.1 b hb
    · rcases List.mem_cons.mp hb with e | hb
      · rw [e]; exact sy _ _ (h.1 a (by assumption))
      · exact pair_ne sy h.2 a ha b hb n
def PartG (L : List Line) (gs : List Grp) : Prop := Part L (gs.map keysG)
theorem partG_step {L : List Line} {gs : List Grp} {l : Line} (P : PartG L gs) : PartG (L ++ [l]) (stepG gs l) := by
  unfold PartG at *
  have mem : ∀ g, g ∈ gs → keysG g ∈ gs.map keysG := fun g h => List.mem_map.mpr ⟨g, h, rfl⟩
  have dj := P.dj
  rw [List.pairwise_map] at dj
  have dj2 := pair_ne (R := fun a b : Grp => ∀ x ∈ keysG a, x ∉ keysG b) (fun a b h x hb ha => h x ha hb) dj
  generalize hj : (gs.filter (touch l)).foldl joinG (newG l) = j
  have mj : ∀ x, x ∈ keysG j ↔ (x = l.1 ∨ x = l.2) ∨ ∃ g ∈ gs, touch l g = true ∧ x ∈ keysG g := fun x => by
    rw [← hj, mem_fold, mem_newG]
    simp only [List.mem_filter, and_assoc]
  have ms : ∀ k, k ∈ (stepG gs l).map keysG ↔ (∃ g ∈ gs, touch l g = false ∧ keysG g = k) ∨ k = keysG j := fun k => by
    unfold stepG
    rw [hj, List.map_append, List.mem_append, List.map_cons, List.map_nil, List.mem_singleton]
    simp only [List.mem_map, List.mem_filter, Bool.not_eq_true', and_assoc]
  have ms1 : ∀ g ∈ gs, touch l g = false → keysG g ∈ (stepG gs l).map keysG := fun g h t => (ms _).mpr (.inl ⟨g, h, t, rfl⟩)
  have ms2 : keysG j ∈ (stepG gs l).map keysG := (ms _).mpr (.inr rfl)
  have cl : ∀ X, ClosedL (L ++ [l]) X → ClosedL L X ∧ (X l.1 ↔ X l.2) := fun X c => ⟨fun l' h => c l' (List.mem_append_left _ h), c l (List.mem_append_right _ List.mem_cons_self)⟩
  refine ⟨?_, ?_, ?_, ?_, ?_, ?_⟩
  · intro k hk
    rcases (ms k).mp hk with ⟨g, hg, _, rfl⟩ | rfl
    · exact P.nd _ (mem g hg)
    · rw [← hj]; exact nd_fold _ _ (nd_newG l)
  · unfold stepG
    rw [hj, List.pairwise_map, List.pairwise_append]
    refine ⟨dj.sublist List.filter_sublist, List.pairwise_singleton _ _, fun a ha b hb => ?_⟩
    rw [List.mem_singleton] at hb
    rw [hb]
    obtain ⟨ha, ta⟩ := List.mem_filter.mp ha
    have ta : touch l a = false := by simpa using ta
    intro x hx hxj
    have nt : ¬(l.1 ∈ keysG a ∨ l.2 ∈ keysG a) := fun z => by rw [touch_iff.mpr z] at ta; cases ta
    rcases (mj x).mp hxj with (rfl | rfl) | ⟨g, hg, tg, hxg⟩
    · exact nt (.inl hx)
    · exact nt (.inr hx)
    · exact dj2 a ha g hg (fun z => by rw [z, tg] at ta; cases ta) x hx hxg
  · intro l' hl'
    rcases List.mem_append.mp hl' with hl' | hl'
    · obtain ⟨k, hk, a, b⟩ := P.ln l' hl'
      obtain ⟨g, hg, rfl⟩ := List.mem_map.mp hk
      cases t : touch l g with
      | false => exact ⟨_, ms1 g hg t, a, b⟩
      | true => exact ⟨_, ms2, (mj _).mpr (.inr ⟨g, hg, t, a⟩), (mj _).mpr (.inr ⟨g, hg, t, b⟩)⟩
    · rw [List.mem_singleton] at hl'
      rw [hl']
      exact ⟨_, ms2, (mj _).mpr (.inl (.inl rfl)), (mj _).mpr (.inl (.inr rfl))⟩
  · intro k hk X cX
    obtain ⟨c1, c2⟩ := cl X cX
    rcases (ms k).mp hk with ⟨g, hg, _, rfl⟩ | rfl
    · exact P.cn _ (mem g hg) X c1
    · rintro ⟨x, hx, Xx⟩
      have h1 : X l.1 := by
        rcases (mj x).mp hx with (rfl | rfl) | ⟨g, hg, tg, hxg⟩
        · exact Xx
        · exact c2.mpr Xx
        · have all := P.cn _ (mem g hg) X c1 ⟨x, hxg, Xx⟩
          rcases touch_iff.mp tg with h | h
          · exact all _ h
          · exact c2.mpr (all _ h)
      intro y hy
      rcases (mj y).mp hy with (rfl | rfl) | ⟨g, hg, tg, hyg⟩
      · exact h1
      · exact c2.mp h1
      · rcases touch_iff.mp tg with h | h
        · exact P.cn _ (mem g hg) X c1 ⟨_, h, h1⟩ y hyg
        · exact P.cn _ (mem g hg) X c1 ⟨_, h, c2.mp h1⟩ y hyg
  · intro k hk x hx
    rcases (ms k).mp hk with ⟨g, hg, _, rfl⟩ | rfl
    · obtain ⟨l', a, b⟩ := P.ed _ (mem g hg) x hx
      exact ⟨l', List.mem_append_left _ a, b⟩
    · rcases (mj x).mp hx with h | ⟨g, hg, _, hxg⟩
      · exact ⟨l, List.mem_append_right _ List.mem_cons_self, h⟩
      · obtain ⟨l', a, b⟩ := P.ed _ (mem g hg) x hxg
        exact ⟨l', List.mem_append_left _ a, b⟩
  · intro k hk
    rcases (ms k).mp hk with ⟨g, hg, _, rfl⟩ | rfl
    · exact P.ne _ (mem g hg)
    · intro z
      have := (mj l.1).mpr (.inl (.inl rfl))
      rw [z] at this
      cases this
theorem partG_fold : ∀ (R L : List Line) (gs : List Grp), PartG L gs → PartG (L ++ R) (R.foldl stepG gs)
  | [], L, gs, P => by rw [List.append_nil]; exact P
  | l :: R, L, gs, P => by
    have := partG_fold R (L ++ [l]) (stepG gs l) (partG_step P)
    rw [List.append_assoc] at this
    exact this
theorem part_groups (L : List Line) : Part L ((groupsP L).map keysG) := by
  have h0 : PartG [] [] := by
    refine ⟨fun g h => ?_, List.Pairwise.nil, fun l h => ?_, fun g h => ?_, fun g h => ?_, fun g h => ?_⟩ <;> cases h
  exact partG_fold L [] [] h0
end Z
end

section
set_option Elab.async false
set_option linter.all false
set_option maxRecDepth 100000
set_option autoImplicit false
set_option maxHeartbeats 2000000
/-! M2: the need by groups, plain. -/
namespace Z
open PySem L2
open En

def ind (p : Hole) (l : Line) : Bool := decide (l.1 = p) || decide (l.2 = p)
def cnt (A : List Line) (p : Hole) : Int := ((A.filter (ind p)).length : Int)
def looseL (A C : List Line) (ks : Ks) : Int := (ks.map fun p => absI (cnt A p - cnt C p)).sum
def dueF (A C : List Line) (ks : Ks) : Int := oneN (looseL A C ks)
theorem perm_sum {α : Type} (f : α → Int) {a b : List α} (h : a.Perm b) : (a.map f).sum = (b.map f).sum := by
  induction h with
  | nil => rfl
  | cons x _ ih => rw [List.map_cons, List.map_cons, List.sum_cons, List.sum_cons, ih]
  | swap x y l => simp only [List.map_cons, List.sum_cons]; omega
  | trans _ _ i1 i2 => exact i1.trans i2
theorem dueF_perm (A C : List Line) (a b : Ks) (h : a.Perm b) : dueF A C a = dueF A C b := by
  unfold dueF looseL
  rw [perm_sum _ h]
def val (m : Tab) (q : Hole) : Int := (aget m q).getD 0
theorem val_bump {m : Int} {acc : Tab} {p q : Hole} : val (bump m acc p) q = val acc q + if p = q then m else 0 := by
  unfold val bump
  by_cases h : p = q
  · subst h
    rw [aget_put_self, if_pos rfl]
    rfl
  · rw [aget_put_ne (Ne.symm h), if_neg h, Int.add_zero]
theorem cnt_cons (l : Line) (A : List Line) (q : Hole) : cnt (l :: A) q = (if ind q l then 1 else 0) + cnt A q := by
  unfold cnt
  rw [List.filter_cons]
  split
  · rw [List.length_cons]; omega
  · omega
theorem val_fold {m : Int} {q : Hole} : ∀ (A : List Line) (acc : Tab), (∀ l ∈ A, l.1 ≠ l.2) → val (A.foldl (bumpL m) acc) q = val acc q + m * cnt A q
  | [], acc, _ => by simp [cnt]
  | l :: A, acc, h => by
    rw [List.foldl_cons, val_fold A _ fun x hx => h x (List.mem_cons_of_mem _ hx), cnt_cons]
    unfold bumpL
    rw [val_bump, val_bump]
    have n := h l List.mem_cons_self
    unfold ind
    by_cases h1 : l.1 = q
    · have h2 : ¬ l.2 = q := fun z => n (h1.trans z.symm)
      simp only [h1, h2, if_true, if_false, decide_true, decide_false, Bool.true_or, Int.mul_add, Int.mul_one]
      omega
    · by_cases h2 : l.2 = q
      · simp only [h1, h2, if_true, if_false, decide_true, decide_false, Bool.or_true, Int.mul_add, Int.mul_one]
        omega
      · simp only [h1, h2, if_false, decide_false, Bool.or_self, Bool.false_eq_true, Int.zero_add]
        omega
def keysT (m : Tab) : Ks := m.map (·.1)
theorem mem_bump {m : Int} {acc : Tab} {p q : Hole} : q ∈ keysT (bump m acc p) ↔ q ∈ keysT acc ∨ q = p := by
  unfold keysT bump
  rw [aput_keys]
  split
  · rename_i h
    constructor
    · exact .inl
    · rintro (h | rfl)
      · exact h
      · assumption
  · rw [List.mem_append, List.mem_singleton]
theorem mem_foldT {m : Int} {q : Hole} : ∀ (A : List Line) (acc : Tab), q ∈ keysT (A.foldl (bumpL m) acc) ↔ q ∈ keysT acc ∨ ∃ l ∈ A, q = l.1 ∨ q = l.2
  | [], acc => by simp
  | l :: A, acc => by
    rw [List.foldl_cons, mem_foldT A]
    unfold bumpL
    rw [mem_bump, mem_bump]
    simp only [List.mem_cons, exists_eq_or_imp, or_assoc]
theorem nd_foldT {m : Int} : ∀ (A : List Line) (acc : Tab), (keysT acc).Nodup → (keysT (A.foldl (bumpL m) acc)).Nodup
  | [], acc, h => h
  | l :: A, acc, h => nd_foldT A _ (aput_nodup (aput_nodup h))
theorem sum_ne0 (f : Hole → Int) : ∀ ks : Ks, ((ks.filter fun p => decide (f p ≠ 0)).map fun p => absI (f p)).sum = (ks.map fun p => absI (f p)).sum
  | [] => rfl
  | k :: r => by
    have ih := sum_ne0 f r
    rw [List.filter_cons, List.map_cons, List.sum_cons]
    by_cases h : f k = 0
    · rw [if_neg (by simp [h]), ih, h]
      simp [absI]
    · rw [if_pos (by simp [h]), List.map_cons, List.sum_cons, ih]
theorem looseI_eq {A C : List Line} {g : Grp} (nd : (keysG g).Nodup) (hA : ∀ l ∈ A, l.1 ≠ l.2) (hC : ∀ l ∈ C, l.1 ≠ l.2) (cl : ClosedL (A ++ C) (· ∈ keysG g)) (ed : ∀ x ∈ keysG g, ∃ l ∈ A ++ C, x = l.1 ∨ x = l.2) :
    looseI (A.filter (inG g)) (C.filter (inG g)) = looseL A C (keysG g) := by
  have ig : ∀ l, inG g l = true ↔ l.1 ∈ keysG g := fun l => by
    unfold inG
    cases e : aget g l.1 with
    | none => simp; exact aget_none.mp e
    | some v => simp; exact List.mem_map.mpr ⟨_, aget_some e, rfl⟩
  have hA' : ∀ l ∈ A.filter (inG g), l.1 ≠ l.2 := fun l h => hA l (List.mem_filter.mp h).1
  have hC' : ∀ l ∈ C.filter (inG g), l.1 ≠ l.2 := fun l h => hC l (List.mem_filter.mp h).1
  have hv : ∀ q, val (foundT (A.filter (inG g)) (C.filter (inG g))) q = cnt (A.filter (inG g)) q - cnt (C.filter (inG g)) q := fun q => by
    unfold foundT
    rw [val_fold _ _ hC', val_fold _ _ hA']
    have : val [] q = 0 := rfl
    rw [this]
    omega
  have cf : ∀ (B : List Line), (∀ l ∈ B, l.1 ∈ keysG g ↔ l.2 ∈ keysG g) → ∀ q ∈ keysG g, cnt (B.filter (inG g)) q = cnt B q := fun B hB q hq => by
    unfold cnt
    rw [List.filter_filter]
    congr 2
    refine List.filter_congr fun l hl => ?_
    cases e : ind q l with
    | false => rfl
    | true =>
      rw [Bool.true_and, ig l]
      unfold ind at e
      rw [Bool.or_eq_true] at e
      rcases e with e | e
      · rw [of_decide_eq_true e]; exact hq
      · exact (hB l hl).mpr (by rw [of_decide_eq_true e]; exact hq)
  have ks : ∀ q, q ∈ keysT (foundT (A.filter (inG g)) (C.filter (inG g))) ↔ q ∈ keysG g := fun q => by
    unfold foundT
    rw [mem_foldT, mem_foldT]
    constructor
    · rintro ((h | ⟨l, hl, h⟩) | ⟨l, hl, h⟩)
      · cases h
      · obtain ⟨a, b⟩ := List.mem_filter.mp hl
        have b := (ig l).mp b
        rcases h with rfl | rfl
        · exact b
        · exact (cl l (List.mem_append_left _ a)).mp b
      · obtain ⟨a, b⟩ := List.mem_filter.mp hl
        have b := (ig l).mp b
        rcases h with rfl | rfl
        · exact b
        · exact (cl l (List.mem_append_right _ a)).mp b
    · intro h
      obtain ⟨l, hl, e⟩ := ed q h
      have il : inG g l = true := (ig l).mpr (by
        rcases e with rfl | rfl
        · exact h
        · exact (cl l hl).mpr h)
      rcases List.mem_append.mp hl with hl | hl
      · exact .inl (.inr ⟨l, List.mem_filter.mpr ⟨hl, il⟩, e⟩)
      · exact .inr ⟨l, List.mem_filter.mpr ⟨hl, il⟩, e⟩
  have ndk : (keysT (foundT (A.filter (inG g)) (C.filter (inG g)))).Nodup := nd_foldT _ _ (nd_foldT _ _ List.nodup_nil)
  unfold looseI surp
  rw [List.map_map]
  have e1 : ((sortE ((foundT (A.filter (inG g)) (C.filter (inG g))).map (·.1))).filter fun p => decide ((aget (foundT (A.filter (inG g)) (C.filter (inG g))) p).getD 0 ≠ 0)).map ((fun p : Hole × Int => absI p.2) ∘ fun p => (p, (aget (foundT (A.filter (inG g)) (C.filter (inG g))) p).getD 0))
    = ((sortE (keysT (foundT (A.filter (inG g)) (C.filter (inG g))))).filter fun p => decide (val (foundT (A.filter (inG g)) (C.filter (inG g))) p ≠ 0)).map fun p => absI (val (foundT (A.filter (inG g)) (C.filter (inG g))) p) := rfl
  rw [e1, sum_ne0, perm_sum _ (sortE_perm _), perm_sum _ (nodup_perm _ _ ndk nd ks)]
  unfold looseL
  congr 1
  refine List.map_congr_left fun q hq => ?_
  rw [hv, cf A (fun l hl => cl l (List.mem_append_left _ hl)) q hq, cf C (fun l hl => cl l (List.mem_append_right _ hl)) q hq]
theorem part_closed {L : List Line} {gs : List Ks} (P : Part L gs) {g : Ks} (hg : g ∈ gs) : ClosedL L (· ∈ g) := fun l hl => by
  obtain ⟨g', hg', a, b⟩ := P.ln l hl
  by_cases e : g' = g
  · subst e
    exact ⟨fun _ => b, fun _ => a⟩
  · have dj := pair_ne (R := fun a b : Ks => ∀ x ∈ a, x ∉ b) (fun a b h x hb ha => h x ha hb) P.dj g' hg' g hg e
    exact ⟨fun z => absurd z (dj _ a), fun z => absurd z (dj _ b)⟩
theorem needP_eq {A C : List Line} (hA : ∀ l ∈ A, l.1 ≠ l.2) (hC : ∀ l ∈ C, l.1 ≠ l.2) : needP A C = (((groupsP (A ++ C)).map keysG).map (dueF A C)).sum := by
  have P := part_groups (A ++ C)
  unfold needP
  have e : (sortG (groupsP (A ++ C))).Perm (groupsP (A ++ C)) := List.mergeSort_perm _ _
  rw [perm_sum _ e, List.map_map]
  congr 1
  refine List.map_congr_left fun g hg => ?_
  have hk : keysG g ∈ (groupsP (A ++ C)).map keysG := List.mem_map.mpr ⟨g, hg, rfl⟩
  show oneN _ = oneN _
  rw [looseI_eq (P.nd _ hk) hA hC (part_closed P hk) (P.ed _ hk)]
end Z
end

section
set_option Elab.async false
set_option linter.all false
set_option maxRecDepth 100000
set_option autoImplicit false
set_option maxHeartbeats 2000000
/-! P6: grown, loose, due, walked. -/
namespace Z
open PySem L2
open En

theorem hd_sh (p : Hole) : SeqAt.shaped (hd p) = true := by simp [hd, SeqAt.shaped, PyData.canLay0, PyData.canLayAll0, PyData.depth, PyData.depthAll]
theorem ld_sh (l : Line) : SeqAt.shaped (ld l) = true := by simp [ld, hd, SeqAt.shaped, PyData.canLay0, PyData.canLayAll0, PyData.depth, PyData.depthAll]
theorem hd_eqv (a b : Hole) : PyData.eqv (hd a) (hd b) = decide (a = b) := by
  obtain ⟨a1, a2⟩ := a
  obtain ⟨b1, b2⟩ := b
  rw [Bool.eq_iff_iff]
  simp [hd, PyData.eqv, PyData.eqvAll]
theorem in_line (h : PH) (p : Hole) (l : Line) : cmpO .isin (hv p) (lv l) h = some (ind p l) := by
  have e1 : dd h (hv p) = some (hd p) := EnS.dd_en h p
  have e2 : optAll ([hv l.1, hv l.2].map (dat h 11)) = some [hd l.1, hd l.2] := by simp [hv, hd, dat, optAll]
  have e3 : SeqAt.shaped (.tuple [hd l.1, hd l.2]) = true := ld_sh l
  show containsV (hv p) (.tup [hv l.1, hv l.2]) h = _
  unfold containsV
  simp only [e1, e2, hd_sh, e3, Bool.and_self, if_true, List.any_cons, List.any_nil, hd_eqv, Bool.or_false]
  rfl
theorem lst_sh {A : List Line} : SeqAt.shaped (.list (A.map ld)) = true := by
  have : ∀ A : List Line, PyData.canLayAll0 (A.map ld) = true ∧ PyData.depthAll (A.map ld) ≤ 4 := by
    intro A
    induction A with
    | nil => simp [PyData.canLayAll0, PyData.depthAll]
    | cons l r ih =>
      obtain ⟨a, b⟩ := ih
      rw [List.map_cons]
      simp only [PyData.canLayAll0, PyData.depthAll, a, ld, hd, PyData.canLay0, PyData.depth, Bool.and_self, Bool.and_true, true_and]
      omega
  obtain ⟨a, b⟩ := this A
  unfold SeqAt.shaped
  rw [PyData.canLay0, PyData.depth, a, Bool.true_and]
  refine decide_eq_true ?_
  omega
theorem ne_nil {h : PH} {l m : Nat} {A : List Line} (e1 : h[l]? = some (.lst (A.map lv))) (e2 : h[m]? = some (.lst [])) : cmpO .ne (.ref l) (.ref m) h = some (!A.isEmpty) := by
  have d1 : dd h (.ref l) = some (.list (A.map ld)) := by
    have : optAll ((A.map lv).map (dat h 11)) = some (A.map ld) := by
      rw [List.map_map]
      exact optAll_mp fun l _ => by simp [lv, ld, hv, hd, dat, optAll]
    unfold dd
    rw [dat, e1]
    dsimp only
    rw [this]
    rfl
  have d2 : dd h (.ref m) = some (.list []) := by
    unfold dd
    rw [dat, e2]
    rfl
  show (pyEq h (.ref l) (.ref m)).map (!·) = _
  unfold pyEq
  have s0 : SeqAt.shaped (.list []) = true := by simp [SeqAt.shaped, PyData.canLay0, PyData.canLayAll0, PyData.depth, PyData.depthAll]
  simp only [isScal, Bool.false_and, Bool.false_eq_true, if_false, d1, d2, lst_sh, s0, Bool.and_self, if_true, Option.map_some]
  cases A <;> simp [PyData.eqv, PyData.eqvAll]

/-! ### grown -/
def sweep (g : Grp) (l : Line) : Grp := if touch l g then aput (aput g l.1 ()) l.2 () else g
def ends (L : List Line) : Ks := L.flatMap fun l => [l.1, l.2]
theorem mem_put {g : Grp} {p q : Hole} : q ∈ keysG (aput g p ()) ↔ q ∈ keysG g ∨ q = p := by
  unfold keysG
  rw [aput_keys]
  split
  · rename_i h
    exact ⟨.inl, fun z => z.elim id fun z => by rw [z]; exact h⟩
  · rw [List.mem_append, List.mem_singleton]
theorem mem_sweep {g : Grp} {l : Line} {q : Hole} : q ∈ keysG (sweep g l) ↔ q ∈ keysG g ∨ (touch l g = true ∧ (q = l.1 ∨ q = l.2)) := by
  unfold sweep
  cases touch l g with
  | true => simp only [if_true, mem_put, true_and, or_assoc]
  | false => simp
theorem nd_sweep {g : Grp} {l : Line} (h : (keysG g).Nodup) : (keysG (sweep g l)).Nodup := by
  unfold sweep
  split
  · exact aput_nodup (aput_nodup h)
  · exact h
theorem len_put (g : Grp) (p : Hole) : g.length ≤ (aput g p ()).length := by
  unfold aput
  split
  · rw [List.length_map]; exact Nat.le_refl _
  · simp
theorem put_same {g : Grp} {p : Hole} (h : (aput g p ()).length = g.length) : p ∈ keysG g := by
  unfold aput at h
  split at h
  · rename_i z; exact any_mem.mp z
  · simp at h
theorem len_sweep (g : Grp) (l : Line) : g.length ≤ (sweep g l).length := by
  unfold sweep
  split
  · exact Nat.le_trans (len_put g l.1) (len_put _ l.2)
  · exact Nat.le_refl _
theorem len_pass : ∀ (L : List Line) (g : Grp), g.length ≤ (L.foldl sweep g).length
  | [], g => Nat.le_refl _
  | l :: L, g => Nat.le_trans (len_sweep g l) (len_pass L _)
structure GrI (L : List Line) (s : Hole) (g : Grp) : Prop where
  nd : (keysG g).Nodup
  st : s ∈ keysG g
  sub : ∀ x ∈ keysG g, x ∈ s :: ends L
  mn : ∀ X : Hole → Prop, ClosedL L X → X s → ∀ x ∈ keysG g, X x
theorem mem_ends {L : List Line} {l : Line} (h : l ∈ L) : l.1 ∈ ends L ∧ l.2 ∈ ends L := by
  unfold ends
  exact ⟨List.mem_flatMap.mpr ⟨l, h, by simp⟩, List.mem_flatMap.mpr ⟨l, h, by simp⟩⟩
theorem grI_sweep {L : List Line} {s : Hole} {g : Grp} {l : Line} (hl : l ∈ L) (I : GrI L s g) : GrI L s (sweep g l) := by
  refine ⟨nd_sweep I.nd, mem_sweep.mpr (.inl I.st), fun x hx => ?_, fun X c hs x hx => ?_⟩
  · rcases mem_sweep.mp hx with h | ⟨_, rfl | rfl⟩
    · exact I.sub x h
    · exact List.mem_cons_of_mem _ (mem_ends hl).1
    · exact List.mem_cons_of_mem _ (mem_ends hl).2
  · rcases mem_sweep.mp hx with h | ⟨t, h⟩
    · exact I.mn X c hs x h
    · have h1 : X l.1 := by
        rcases touch_iff.mp t with z | z
        · exact I.mn X c hs _ z
        · exact (c l hl).mpr (I.mn X c hs _ z)
      rcases h with rfl | rfl
      · exact h1
      · exact (c l hl).mp h1
theorem grI_pass {L : List Line} {s : Hole} : ∀ (M : List Line) (g : Grp), (∀ l ∈ M, l ∈ L) → GrI L s g → GrI L s (M.foldl sweep g)
  | [], g, _, I => I
  | l :: M, g, h, I => grI_pass M _ (fun x hx => h x (List.mem_cons_of_mem _ hx)) (grI_sweep (h l List.mem_cons_self) I)
theorem grI_len {L : List Line} {s : Hole} {g : Grp} (I : GrI L s g) : g.length ≤ 2 * L.length + 1 := by
  have h := nodup_len _ _ I.nd I.sub
  have e : ∀ L : List Line, (ends L).length = 2 * L.length := by
    intro L
    induction L with
    | nil => rfl
    | cons l r ih => unfold ends at *; rw [List.flatMap_cons, List.length_append, ih]; simp; omega
  unfold keysG at h
  rw [List.length_map, List.length_cons, e] at h
  exact h
/-- a pass that adds nothing: closed -/
theorem pass_closed : ∀ (M : List Line) (g : Grp), (M.foldl sweep g).length = g.length → M.foldl sweep g = g ∧ ∀ l ∈ M, l.1 ∈ keysG g ↔ l.2 ∈ keysG g
  | [], g, _ => ⟨rfl, fun l h => by cases h⟩
  | l :: M, g, e => by
    rw [List.foldl_cons] at e ⊢
    have a := len_sweep g l
    have b := len_pass M (sweep g l)
    have e1 : (sweep g l).length = g.length := by omega
    have key : sweep g l = g ∧ (l.1 ∈ keysG g ↔ l.2 ∈ keysG g) := by
      unfold sweep at e1 ⊢
      cases t : touch l g with
      | false =>
        simp only [Bool.false_eq_true, if_false, true_and]
        have n : ¬(l.1 ∈ keysG g ∨ l.2 ∈ keysG g) := fun z => by rw [touch_iff.mpr z] at t; cases t
        exact ⟨fun z => absurd (.inl z) n, fun z => absurd (.inr z) n⟩
      | true =>
        rw [t] at e1
        simp only [if_true] at e1 ⊢
        have c := len_put g l.1
        have d := len_put (aput g l.1 ()) l.2
        have k1 := put_same (g := g) (p := l.1) (by omega)
        have p1 : aput g l.1 () = g := by
          have : g.any (fun p => decide (p.1 = l.1)) = true := any_mem.mpr k1
          unfold aput
          rw [if_pos this]
          conv => rhs; rw [← List.map_id g]
          exact List.map_congr_left fun p _ => by split <;> rfl
        rw [p1] at e1 ⊢
        have k2 := put_same (g := g) (p := l.2) (by omega)
        have p2 : aput g l.2 () = g := by
          have : g.any (fun p => decide (p.1 = l.2)) = true := any_mem.mpr k2
          unfold aput
          rw [if_pos this]
          conv => rhs; rw [← List.map_id g]
          exact List.map_congr_left fun p _ => by split <;> rfl
        exact ⟨p2, fun _ => k2, fun _ => k1⟩
    rw [key.1] at e ⊢
    obtain ⟨i1, i2⟩ := pass_closed M g e
    refine ⟨i1, fun x hx => ?_⟩
    rcases List.mem_cons.mp hx with rfl | hx
    · exact key.2
    · exact i2 x hx
theorem gr_of {L : List Line} {s : Hole} {g : Grp} (I : GrI L s g) (e : (L.foldl sweep g).length = g.length) : Gr L s (keysG (L.foldl sweep g)) := by
  obtain ⟨a, b⟩ := pass_closed L g e
  rw [a]
  exact ⟨I.nd, I.st, b, I.mn⟩
end Z
end

section
set_option Elab.async false
set_option linter.all false
set_option maxRecDepth 100000
set_option autoImplicit false
set_option maxHeartbeats 2000000
/-! P7: grown, loose, due, walked. -/
namespace Z
open PySem L2
open En

def B_sweep : List S := [.ife (.or [.cmp .isin (.var 3) (.var 1), .cmp .isin (.var 4) (.var 1)]) [.asg (.sub (.var 1) (.var 3)) (.bl true), .asg (.sub (.var 1) (.var 4)) (.bl true)] []]
theorem set_grp {h : PH} {r : Nat} {g : Grp} (e : h[r]? = some (.dct (enT trU g) 0)) (z : g.length < 1000000) (p : Hole) : setV (.ref r) (hv p) (.bl true) h = some (h.set r (.dct (enT trU (aput g p ())) 0)) := by
  have hs := sizeLine_eq
  have f : fitK (enT trU g) (hv p) = true := fitK_en (k := p)
  rw [set_d e f (by unfold enT; rw [List.length_map]; omega), show dput (enT trU g) (hv p) (.bl true) = enT trU (aput g p ()) from dput_en (f := trU) (k := p) (v := ())]
theorem sweep_ok {G : Env} {N B : Sto → PH → Prop} {R : PV → PH → Prop} {h hh : PH} {l0 gr : Nat} {x3 x4 : Option PV} {m : Int} {L : List Line} {s : Hole} {g : Grp} (hp : h <+: hh) (h0 : h[l0]? = some (.lst (L.map lv))) (hg : hh[gr]? = some (.dct (enT trU g) 0)) (hgr : h.length ≤ gr) (I : GrI L s g) (hz : L.length < 1000)
    (hN : ∀ hh' x3 x4, h <+: hh' → hh'[gr]? = some (.dct (enT trU (L.foldl sweep g)) 0) → N [some (.ref l0), some (.ref gr), some (.int m), x3, x4] hh') :
    Go (ex G (.for_ (.tp [.nm 3, .nm 4]) (.val (.var 0)) B_sweep) [some (.ref l0), some (.ref gr), some (.int m), x3, x4] hh) N B R := by
  have hs := sizeLine_eq
  rw [g_for]
  simp only [g_nil, g_cons, g_asg, g_expr, g_ret, g_retN, g_pass, g_brk, g_ife, k_var, k_non, k_bl, k_int, k_str, k_op, k_neg, k_not, k_and, k_or, k_and1, k_and2, k_or1, k_or2, k_cmp, k_idx, k_slc, k_iN, k_iS, k_tup, k_lst, k_dic, k_call, k_bi, k_bm, k_isi, k_nil, k_cons, k_T, k_cN, k_cS, k_val, k_rng1, k_rng2, k_enum, k_zip, k_nm, k_tpT, k_tsN, k_tsC, k_sub, ok_ok, List.getElem?_cons_zero, List.getElem?_cons_succ, List.set_cons_zero, List.set_cons_succ, Option.some.injEq, exists_eq_left', List.length_cons, List.length_nil, true_and, and_true, exists_eq_left, wipeP, ok_tup, lock_l, lock_t, unlock_l, unlock_t, all_l, all_t, src_t, bmT, bmV, on0, on1, on2, biV, idx_t0, idx_t1, idx_t2, neg_i, tr_b, add_i, sub_i, eq_i, ne_i, lt_i, le_i, gt_i, ge_i, eq_b, dict0, sizeLine_eq, Nat.reduceAdd, Nat.reduceLeDiff, Nat.zero_add, evens, odds, abs_i, max_i, src_l (pre_at hp h0)]
  refine for_inv (s := .lst l0 (L.map lv)) (fun j σ hh => ∃ x3 x4, σ = [some (.ref l0), some (.ref gr), some (.int m), x3, x4] ∧ h <+: hh ∧ hh[gr]? = some (.dct (enT trU ((L.take j).foldl sweep g)) 0)) ⟨_, _, rfl, hp, hg⟩ ?_ ?_
  · rintro j x σ hh ex ⟨x3, x4, rfl, e1, e2⟩
    refine ⟨ok_l (pre_at e1 h0), ?_⟩
    have ex : (L.map lv)[j]? = some x := ex
    rw [List.getElem?_map, Option.map_eq_some_iff] at ex
    obtain ⟨l, el, rfl⟩ := ex
    have Ij : GrI L s ((L.take j).foldl sweep g) := grI_pass _ _ (fun x hx => List.mem_of_mem_take hx) I
    have tk : (L.take (j + 1)).foldl sweep g = sweep ((L.take j).foldl sweep g) l := by rw [List.take_add_one, el, Option.toList_some, List.foldl_append]; rfl
    rw [tk]
    generalize (L.take j).foldl sweep g = gj at e2 Ij ⊢
    have lj := grI_len Ij
    have l2 := aput_len (m := gj) (k := l.1) (v := ())
    have s1 := set_grp e2 (by omega) l.1
    have s2 := set_grp (h := hh.set gr (.dct (enT trU (aput gj l.1 ())) 0)) (at_set e2) (by omega) l.2
    rw [g_forB]
    unfold B_sweep
    simp only [g_nil, g_cons, g_asg, g_expr, g_ret, g_retN, g_pass, g_brk, g_ife, k_var, k_non, k_bl, k_int, k_str, k_op, k_neg, k_not, k_and, k_or, k_and1, k_and2, k_or1, k_or2, k_cmp, k_idx, k_slc, k_iN, k_iS, k_tup, k_lst, k_dic, k_call, k_bi, k_bm, k_isi, k_nil, k_cons, k_T, k_cN, k_cS, k_val, k_rng1, k_rng2, k_enum, k_zip, k_nm, k_tpT, k_tsN, k_tsC, k_sub, ok_ok, List.getElem?_cons_zero, List.getElem?_cons_succ, List.set_cons_zero, List.set_cons_succ, Option.some.injEq, exists_eq_left', List.length_cons, List.length_nil, true_and, and_true, exists_eq_left, wipeP, ok_tup, lock_l, lock_t, unlock_l, unlock_t, all_l, all_t, src_t, bmT, bmV, on0, on1, on2, biV, idx_t0, idx_t1, idx_t2, neg_i, tr_b, add_i, sub_i, eq_i, ne_i, lt_i, le_i, gt_i, ge_i, eq_b, dict0, sizeLine_eq, Nat.reduceAdd, Nat.reduceLeDiff, Nat.zero_add, evens, odds, abs_i, max_i, lv, in_grp e2, s1, s2]
    have tc : touch l gj = ((aget gj l.1).isSome || (aget gj l.2).isSome) := rfl
    unfold sweep
    rw [tc]
    cases a : (aget gj l.1).isSome <;> cases b : (aget gj l.2).isSome <;> simp only [if_true, if_false, Bool.false_eq_true, Bool.or_true, Bool.true_or, Bool.or_false]
    · exact ⟨_, _, rfl, e1, e2⟩
    all_goals exact ⟨_, _, rfl, pre_set (pre_set e1 hgr) hgr, at_set (at_set e2)⟩
  · rintro σ hh ⟨x3, x4, rfl, e1, e2⟩
    refine ⟨ok_l (pre_at e1 h0), ?_⟩
    have hlen : (Src.lst l0 (L.map lv)).all.length = L.length := by simp [Src.all]
    rw [hlen, List.take_length] at e2
    rw [unlock_l]
    exact hN _ _ _ e1 e2
def B_grown : List S := [.asg (.nm 1) (.dic [.idx (.idx (.var 0) (.int 0)) (.int 0), .bl true]),
  .asg (.nm 2) (.int 0),
  .whl (.cmp .lt (.var 2) (.bi .len [.var 1])) [.asg (.nm 2) (.bi .len [.var 1]), .for_ (.tp [.nm 3, .nm 4]) (.val (.var 0)) B_sweep],
  .ret (.var 1)]
theorem grown_ok {G : Env} {N B : Sto → PH → Prop} {R : PV → PH → Prop} {h : PH} {l0 : Nat} {L : List Line} {l : Line} (h0 : h[l0]? = some (.lst (L.map lv))) (hl : L[0]? = some l) (hz : L.length < 1000)
    (hR : ∀ h' gr g, h <+: h' → h'[gr]? = some (.dct (enT trU g) 0) → Gr L l.1 (keysG g) → R (.ref gr) h') :
    Go (exs G B_grown [some (.ref l0), none, none, none, none] h) N B R := by
  have hs := sizeLine_eq
  unfold B_grown
  have i1 : idxV (.ref l0) (.int 0) h = some (lv l, h) := idx_l h0 (by decide) (by rw [show (0 : Int).toNat = 0 from rfl, List.getElem?_map, hl]; rfl)
  have i2 : idxV (lv l) (.int 0) h = some (hv l.1, h) := idx_t0
  have dd : dicV [hv l.1] [.bl true] h = some (.ref h.length, h ++ [.dct (enT trU [(l.1, ())]) 0]) := by
    unfold dicV
    rw [if_pos]
    · rfl
    · have h1 : okKey (hv l.1) = true := EnK.ok (α := Hole) l.1
      exact ⟨by simp [h1], rfl, by simp, by simp [sameK, hv, tupK]⟩
  simp only [g_nil, g_cons, g_asg, g_expr, g_ret, g_retN, g_pass, g_brk, g_ife, k_var, k_non, k_bl, k_int, k_str, k_op, k_neg, k_not, k_and, k_or, k_and1, k_and2, k_or1, k_or2, k_cmp, k_idx, k_slc, k_iN, k_iS, k_tup, k_lst, k_dic, k_call, k_bi, k_bm, k_isi, k_nil, k_cons, k_T, k_cN, k_cS, k_val, k_rng1, k_rng2, k_enum, k_zip, k_nm, k_tpT, k_tsN, k_tsC, k_sub, ok_ok, List.getElem?_cons_zero, List.getElem?_cons_succ, List.set_cons_zero, List.set_cons_succ, Option.some.injEq, exists_eq_left', List.length_cons, List.length_nil, true_and, and_true, exists_eq_left, wipeP, ok_tup, lock_l, lock_t, unlock_l, unlock_t, all_l, all_t, src_t, bmT, bmV, on0, on1, on2, biV, idx_t0, idx_t1, idx_t2, neg_i, tr_b, add_i, sub_i, eq_i, ne_i, lt_i, le_i, gt_i, ge_i, eq_b, dict0, sizeLine_eq, Nat.reduceAdd, Nat.reduceLeDiff, Nat.zero_add, evens, odds, abs_i, max_i, i1, i2, dd]
  rw [g_whl]
  have I0 : GrI L l.1 [(l.1, ())] := by
    have k : keysG [(l.1, ())] = [l.1] := rfl
    refine ⟨by rw [k]; simp, by rw [k]; simp, fun x hx => ?_, fun X _ hs x hx => ?_⟩
    · rw [k, List.mem_singleton] at hx; rw [hx]; exact List.mem_cons_self
    · rw [k, List.mem_singleton] at hx; rw [hx]; exact hs
  refine while_inv (fun m σ hh => ∃ (n : Nat) (g : Grp) (x3 x4 : Option PV), σ = [some (.ref l0), some (.ref h.length), some (.int n), x3, x4] ∧ h <+: hh ∧ hh[h.length]? = some (.dct (enT trU g) 0) ∧ GrI L l.1 g ∧ n ≤ g.length ∧ m = 2 * L.length + 2 - n ∧ (n = g.length → Gr L l.1 (keysG g))) ?_ nfuel (2 * L.length + 2) _ _ (by unfold nfuel; omega) ?_
  · rintro m σ hh ⟨n, g, x3, x4, rfl, e1, e2, I, e3, e4, e5⟩
    have le : lenV (.ref h.length) hh = some (.int g.length, hh) := by rw [len_d e2]; unfold enT; rw [List.length_map]
    have gl := grI_len I
    simp only [g_nil, g_cons, g_asg, g_expr, g_ret, g_retN, g_pass, g_brk, g_ife, k_var, k_non, k_bl, k_int, k_str, k_op, k_neg, k_not, k_and, k_or, k_and1, k_and2, k_or1, k_or2, k_cmp, k_idx, k_slc, k_iN, k_iS, k_tup, k_lst, k_dic, k_call, k_bi, k_bm, k_isi, k_nil, k_cons, k_T, k_cN, k_cS, k_val, k_rng1, k_rng2, k_enum, k_zip, k_nm, k_tpT, k_tsN, k_tsC, k_sub, ok_ok, List.getElem?_cons_zero, List.getElem?_cons_succ, List.set_cons_zero, List.set_cons_succ, Option.some.injEq, exists_eq_left', List.length_cons, List.length_nil, true_and, and_true, exists_eq_left, wipeP, ok_tup, lock_l, lock_t, unlock_l, unlock_t, all_l, all_t, src_t, bmT, bmV, on0, on1, on2, biV, idx_t0, idx_t1, idx_t2, neg_i, tr_b, add_i, sub_i, eq_i, ne_i, lt_i, le_i, gt_i, ge_i, eq_b, dict0, sizeLine_eq, Nat.reduceAdd, Nat.reduceLeDiff, Nat.zero_add, evens, odds, abs_i, max_i, le]
    split
    · rename_i z
      have z : n < g.length := by simpa using z
      refine sweep_ok e1 h0 e2 (Nat.le_refl _) I hz fun hh' y3 y4 q1 q2 => ?_
      refine ⟨2 * L.length + 2 - g.length, by omega, g.length, L.foldl sweep g, _, _, rfl, q1, q2, grI_pass _ _ (fun _ h => h) I, len_pass _ _, rfl, fun e => gr_of I e.symm⟩
    · rename_i z
      have z : ¬ n < g.length := by simpa using z
      exact hR _ _ g e1 e2 (e5 (by omega))
  · exact ⟨0, _, _, _, rfl, List.prefix_append _ _, at_new, I0, Nat.zero_le _, rfl, fun z => by simp at z⟩
end Z
end

section
set_option Elab.async false
set_option linter.all false
set_option maxRecDepth 100000
set_option autoImplicit false
set_option maxHeartbeats 2000000
/-! P8: loose, due, walked. -/
namespace Z
open PySem L2
open En

theorem pre_all {h h' : PH} (e : ∀ (i : Nat) (o : PO), h[i]? = some o → h'[i]? = some o) : h <+: h' := by
  refine ⟨h'.drop h.length, ?_⟩
  have t : h = h'.take h.length := by
    refine List.ext_getElem? fun i => ?_
    rw [List.getElem?_take]
    split
    · rename_i z
      rw [e i h[i] (List.getElem?_eq_getElem z), List.getElem?_eq_getElem z]
    · rename_i z
      exact List.getElem?_eq_none (by omega)
  conv => lhs; lhs; rw [t]
  exact List.take_append_drop _ _
/-- a face's lines at which a test holds, the test named -/
theorem pick_ok {G : Env} {Q : PV → PH → Prop} {σ : Sto} {hh : PH} {l v x : Nat} {A : List Line} {c : E} {f : Line → Bool} (hl : hh[l]? = some (.lst (A.map lv))) (hA : A.length < 100000)
    (hv' : σ[v]? = some (some (.ref l))) (hx : x < σ.length) (hc : ∀ l u, u = (wipeP σ [x]).set x (some (lv l)) → ∀ Q : PV → PH → Prop, Q (.bl (f l)) hh → Ok (ev G c u hh) Q) (hQ : Q (.ref hh.length) (hh ++ [.lst ((A.filter f).map lv)])) :
    Ok (ev G (.lc (.nm x) (.val (.var v)) (some c) (.var x) [x]) σ hh) Q := by
  have hs := sizeLine_eq
  rw [k_lc, k_val, k_var]
  refine ⟨_, hv', _, src_l hl, ?_⟩
  simp only [all_l, lock_l]
  refine lc_inv (s := .lst l (A.map lv)) (fun j acc h2 => h2 = hh ∧ acc = ((A.take j).filter f).map lv) ⟨rfl, rfl⟩ ?_ ?_
  · rintro j y acc h2 ex ⟨rfl, rfl⟩
    refine ⟨ok_l hl, ?_⟩
    have ex : (A.map lv)[j]? = some y := ex
    rw [List.getElem?_map, Option.map_eq_some_iff] at ex
    obtain ⟨L, eL, rfl⟩ := ex
    have hj : j < A.length := (List.getElem?_eq_some_iff.mp eL).1
    rw [k_lcT, k_nm, k_cS, k_T]
    refine hc L _ rfl _ ?_
    have ux : ((wipeP σ [x]).set x (some (lv L)))[x]? = some (some (lv L)) := by
      refine List.getElem?_set_self ?_
      simp only [wipeP, List.foldl, List.length_set]
      first | exact hx | simpa using hx
    refine ⟨_, tr_b, ?_⟩
    rw [List.take_add_one, eL, Option.toList_some, List.filter_append, List.map_append]
    cases e : f L with
    | false => simp [e]
    | true =>
      simp only [if_true, k_var, ux, Option.some.injEq, exists_eq_left', List.filter_cons, e, List.filter_nil, List.map_cons, List.map_nil]
      refine ⟨?_, by first | trivial | exact ⟨rfl, rfl⟩⟩
      rw [List.length_map]
      refine Nat.lt_of_le_of_lt (List.length_filter_le _ _) ?_
      rw [List.length_take]
      omega
  · rintro acc h2 ⟨rfl, rfl⟩
    refine ⟨ok_l hl, ?_⟩
    have hlen : (Src.lst l (A.map lv)).all.length = A.length := by simp [Src.all]
    rw [hlen, List.take_length, unlock_l]
    exact hQ
def B_loose : List S := [.asg (.nm 3) (.int 0),
  .for_ (.nm 4) (.val (.var 2)) [.asg (.nm 5) (.op .sub (.bi .len [.lc (.nm 6) (.val (.var 0)) (some (.cmp .isin (.var 4) (.var 6))) (.var 6) [6]]) (.bi .len [.lc (.nm 6) (.val (.var 1)) (some (.cmp .isin (.var 4) (.var 6))) (.var 6) [6]])), .asg (.nm 3) (.op .add (.var 3) (.bi .abs [.var 5]))],
  .ret (.var 3)]
theorem loose_ok {G : Env} {N B : Sto → PH → Prop} {R : PV → PH → Prop} {h : PH} {l1 l2 gr : Nat} {A C : List Line} {g : Grp} (h1 : h[l1]? = some (.lst (A.map lv))) (h2 : h[l2]? = some (.lst (C.map lv))) (hg : h[gr]? = some (.dct (enT trU g) 0)) (hz : A.length + C.length < 1000)
    (hR : ∀ h', h <+: h' → R (.int (looseL A C (keysG g))) h') :
    Go (exs G B_loose [some (.ref l1), some (.ref l2), some (.ref gr), none, none, none, none] h) N B R := by
  have hs := sizeLine_eq
  have n1 : l1 ≠ gr := fun z => by rw [z, hg] at h1; simp at h1
  have n2 : l2 ≠ gr := fun z => by rw [z, hg] at h2; simp at h2
  unfold B_loose
  simp only [g_nil, g_cons, g_asg, g_expr, g_ret, g_retN, g_pass, g_brk, g_ife, k_var, k_non, k_bl, k_int, k_str, k_op, k_neg, k_not, k_and, k_or, k_and1, k_and2, k_or1, k_or2, k_cmp, k_idx, k_slc, k_iN, k_iS, k_tup, k_lst, k_dic, k_call, k_bi, k_bm, k_isi, k_nil, k_cons, k_T, k_cN, k_cS, k_val, k_rng1, k_rng2, k_enum, k_zip, k_nm, k_tpT, k_tsN, k_tsC, k_sub, ok_ok, List.getElem?_cons_zero, List.getElem?_cons_succ, List.set_cons_zero, List.set_cons_succ, Option.some.injEq, exists_eq_left', List.length_cons, List.length_nil, true_and, and_true, exists_eq_left, wipeP, ok_tup, lock_l, lock_t, unlock_l, unlock_t, all_l, all_t, src_t, bmT, bmV, on0, on1, on2, biV, idx_t0, idx_t1, idx_t2, neg_i, tr_b, add_i, sub_i, eq_i, ne_i, lt_i, le_i, gt_i, ge_i, eq_b, dict0, sizeLine_eq, Nat.reduceAdd, Nat.reduceLeDiff, Nat.zero_add, evens, odds, abs_i, max_i]
  rw [g_for]
  simp only [g_nil, g_cons, g_asg, g_expr, g_ret, g_retN, g_pass, g_brk, g_ife, k_var, k_non, k_bl, k_int, k_str, k_op, k_neg, k_not, k_and, k_or, k_and1, k_and2, k_or1, k_or2, k_cmp, k_idx, k_slc, k_iN, k_iS, k_tup, k_lst, k_dic, k_call, k_bi, k_bm, k_isi, k_nil, k_cons, k_T, k_cN, k_cS, k_val, k_rng1, k_rng2, k_enum, k_zip, k_nm, k_tpT, k_tsN, k_tsC, k_sub, ok_ok, List.getElem?_cons_zero, List.getElem?_cons_succ, List.set_cons_zero, List.set_cons_succ, Option.some.injEq, exists_eq_left', List.length_cons, List.length_nil, true_and, and_true, exists_eq_left, wipeP, ok_tup, lock_l, lock_t, unlock_l, unlock_t, all_l, all_t, src_t, bmT, bmV, on0, on1, on2, biV, idx_t0, idx_t1, idx_t2, neg_i, tr_b, add_i, sub_i, eq_i, ne_i, lt_i, le_i, gt_i, ge_i, eq_b, dict0, sizeLine_eq, Nat.reduceAdd, Nat.reduceLeDiff, Nat.zero_add, evens, odds, abs_i, max_i, src_d hg]
  have lk : (Src.dct gr ((enT trU g).map (·.1)) 0).lock h = h.set gr (.dct (enT trU g) 1) := by simp [Src.lock, hg]
  rw [lk]
  refine for_inv (s := .dct gr ((enT trU g).map (·.1)) 0) (fun j σ hh => ∃ x4 x5 x6, σ = [some (.ref l1), some (.ref l2), some (.ref gr), some (.int (((keysG g).take j).map fun p => absI (cnt A p - cnt C p)).sum), x4, x5, x6] ∧ hh[gr]? = some (.dct (enT trU g) 1) ∧ Same gr h hh) ⟨_, _, _, rfl, at_set hg, same_set same_refl⟩ ?_ ?_
  · rintro j x σ hh ex ⟨x4, x5, x6, rfl, e1, e2⟩
    refine ⟨rfl, ?_⟩
    have ex : ((enT trU g).map (·.1))[j]? = some x := ex
    rw [keys_grp, List.getElem?_map, Option.map_eq_some_iff] at ex
    obtain ⟨p, ep, rfl⟩ := ex
    have ep : (keysG g)[j]? = some p := ep
    rw [g_forB]
    simp only [g_nil, g_cons, g_asg, g_expr, g_ret, g_retN, g_pass, g_brk, g_ife, k_var, k_non, k_bl, k_int, k_str, k_op, k_neg, k_not, k_and, k_or, k_and1, k_and2, k_or1, k_or2, k_cmp, k_idx, k_slc, k_iN, k_iS, k_tup, k_lst, k_dic, k_call, k_bi, k_bm, k_isi, k_nil, k_cons, k_T, k_cN, k_cS, k_val, k_rng1, k_rng2, k_enum, k_zip, k_nm, k_tpT, k_tsN, k_tsC, k_sub, ok_ok, List.getElem?_cons_zero, List.getElem?_cons_succ, List.set_cons_zero, List.set_cons_succ, Option.some.injEq, exists_eq_left', List.length_cons, List.length_nil, true_and, and_true, exists_eq_left, wipeP, ok_tup, lock_l, lock_t, unlock_l, unlock_t, all_l, all_t, src_t, bmT, bmV, on0, on1, on2, biV, idx_t0, idx_t1, idx_t2, neg_i, tr_b, add_i, sub_i, eq_i, ne_i, lt_i, le_i, gt_i, ge_i, eq_b, dict0, sizeLine_eq, Nat.reduceAdd, Nat.reduceLeDiff, Nat.zero_add, evens, odds, abs_i, max_i]
    refine pick_ok (l := l1) (A := A) (f := ind p) (e2 _ _ n1 h1) (by omega) rfl (by simp) (fun l u eu Q q => ?_) ?_
    · rw [eu]
      simp only [g_nil, g_cons, g_asg, g_expr, g_ret, g_retN, g_pass, g_brk, g_ife, k_var, k_non, k_bl, k_int, k_str, k_op, k_neg, k_not, k_and, k_or, k_and1, k_and2, k_or1, k_or2, k_cmp, k_idx, k_slc, k_iN, k_iS, k_tup, k_lst, k_dic, k_call, k_bi, k_bm, k_isi, k_nil, k_cons, k_T, k_cN, k_cS, k_val, k_rng1, k_rng2, k_enum, k_zip, k_nm, k_tpT, k_tsN, k_tsC, k_sub, ok_ok, List.getElem?_cons_zero, List.getElem?_cons_succ, List.set_cons_zero, List.set_cons_succ, Option.some.injEq, exists_eq_left', List.length_cons, List.length_nil, true_and, and_true, exists_eq_left, wipeP, ok_tup, lock_l, lock_t, unlock_l, unlock_t, all_l, all_t, src_t, bmT, bmV, on0, on1, on2, biV, idx_t0, idx_t1, idx_t2, neg_i, tr_b, add_i, sub_i, eq_i, ne_i, lt_i, le_i, gt_i, ge_i, eq_b, dict0, sizeLine_eq, Nat.reduceAdd, Nat.reduceLeDiff, Nat.zero_add, evens, odds, abs_i, max_i, in_line]
      exact q
    simp only [g_nil, g_cons, g_asg, g_expr, g_ret, g_retN, g_pass, g_brk, g_ife, k_var, k_non, k_bl, k_int, k_str, k_op, k_neg, k_not, k_and, k_or, k_and1, k_and2, k_or1, k_or2, k_cmp, k_idx, k_slc, k_iN, k_iS, k_tup, k_lst, k_dic, k_call, k_bi, k_bm, k_isi, k_nil, k_cons, k_T, k_cN, k_cS, k_val, k_rng1, k_rng2, k_enum, k_zip, k_nm, k_tpT, k_tsN, k_tsC, k_sub, ok_ok, List.getElem?_cons_zero, List.getElem?_cons_succ, List.set_cons_zero, List.set_cons_succ, Option.some.injEq, exists_eq_left', List.length_cons, List.length_nil, true_and, and_true, exists_eq_left, wipeP, ok_tup, lock_l, lock_t, unlock_l, unlock_t, all_l, all_t, src_t, bmT, bmV, on0, on1, on2, biV, idx_t0, idx_t1, idx_t2, neg_i, tr_b, add_i, sub_i, eq_i, ne_i, lt_i, le_i, gt_i, ge_i, eq_b, dict0, sizeLine_eq, Nat.reduceAdd, Nat.reduceLeDiff, Nat.zero_add, evens, odds, abs_i, max_i, len_l at_new]
    refine pick_ok (l := l2) (A := C) (f := ind p) (at_app (e2 _ _ n2 h2)) (by omega) rfl (by simp) (fun l u eu Q q => ?_) ?_
    · rw [eu]
      simp only [g_nil, g_cons, g_asg, g_expr, g_ret, g_retN, g_pass, g_brk, g_ife, k_var, k_non, k_bl, k_int, k_str, k_op, k_neg, k_not, k_and, k_or, k_and1, k_and2, k_or1, k_or2, k_cmp, k_idx, k_slc, k_iN, k_iS, k_tup, k_lst, k_dic, k_call, k_bi, k_bm, k_isi, k_nil, k_cons, k_T, k_cN, k_cS, k_val, k_rng1, k_rng2, k_enum, k_zip, k_nm, k_tpT, k_tsN, k_tsC, k_sub, ok_ok, List.getElem?_cons_zero, List.getElem?_cons_succ, List.set_cons_zero, List.set_cons_succ, Option.some.injEq, exists_eq_left', List.length_cons, List.length_nil, true_and, and_true, exists_eq_left, wipeP, ok_tup, lock_l, lock_t, unlock_l, unlock_t, all_l, all_t, src_t, bmT, bmV, on0, on1, on2, biV, idx_t0, idx_t1, idx_t2, neg_i, tr_b, add_i, sub_i, eq_i, ne_i, lt_i, le_i, gt_i, ge_i, eq_b, dict0, sizeLine_eq, Nat.reduceAdd, Nat.reduceLeDiff, Nat.zero_add, evens, odds, abs_i, max_i, in_line]
      exact q
    simp only [g_nil, g_cons, g_asg, g_expr, g_ret, g_retN, g_pass, g_brk, g_ife, k_var, k_non, k_bl, k_int, k_str, k_op, k_neg, k_not, k_and, k_or, k_and1, k_and2, k_or1, k_or2, k_cmp, k_idx, k_slc, k_iN, k_iS, k_tup, k_lst, k_dic, k_call, k_bi, k_bm, k_isi, k_nil, k_cons, k_T, k_cN, k_cS, k_val, k_rng1, k_rng2, k_enum, k_zip, k_nm, k_tpT, k_tsN, k_tsC, k_sub, ok_ok, List.getElem?_cons_zero, List.getElem?_cons_succ, List.set_cons_zero, List.set_cons_succ, Option.some.injEq, exists_eq_left', List.length_cons, List.length_nil, true_and, and_true, exists_eq_left, wipeP, ok_tup, lock_l, lock_t, unlock_l, unlock_t, all_l, all_t, src_t, bmT, bmV, on0, on1, on2, biV, idx_t0, idx_t1, idx_t2, neg_i, tr_b, add_i, sub_i, eq_i, ne_i, lt_i, le_i, gt_i, ge_i, eq_b, dict0, sizeLine_eq, Nat.reduceAdd, Nat.reduceLeDiff, Nat.zero_add, evens, odds, abs_i, max_i, len_l at_new]
    have es : (((keysG g).take (j + 1)).map fun p => absI (cnt A p - cnt C p)).sum = (((keysG g).take j).map fun p => absI (cnt A p - cnt C p)).sum + absI (cnt A p - cnt C p) := by
      rw [List.take_add_one, ep, Option.toList_some, List.map_append, List.sum_append, List.map_cons, List.map_nil, List.sum_cons, List.sum_nil, Int.add_zero]
    rw [es]
    simp only [List.length_map]
    exact ⟨_, _, _, rfl, at_app (at_app e1), same_app (same_app e2)⟩
  · rintro σ hh ⟨x4, x5, x6, rfl, e1, e2⟩
    refine ⟨rfl, ?_⟩
    have hlen : (Src.dct gr ((enT trU g).map (·.1)) 0).all.length = (keysG g).length := by simp [Src.all, enT, keysG]
    rw [hlen, List.take_length]
    have ul : (Src.dct gr ((enT trU g).map (·.1)) 0).unlock hh = hh.set gr (.dct (enT trU g) 0) := by simp [Src.unlock, e1]
    rw [ul]
    simp only [g_nil, g_cons, g_asg, g_expr, g_ret, g_retN, g_pass, g_brk, g_ife, k_var, k_non, k_bl, k_int, k_str, k_op, k_neg, k_not, k_and, k_or, k_and1, k_and2, k_or1, k_or2, k_cmp, k_idx, k_slc, k_iN, k_iS, k_tup, k_lst, k_dic, k_call, k_bi, k_bm, k_isi, k_nil, k_cons, k_T, k_cN, k_cS, k_val, k_rng1, k_rng2, k_enum, k_zip, k_nm, k_tpT, k_tsN, k_tsC, k_sub, ok_ok, List.getElem?_cons_zero, List.getElem?_cons_succ, List.set_cons_zero, List.set_cons_succ, Option.some.injEq, exists_eq_left', List.length_cons, List.length_nil, true_and, and_true, exists_eq_left, wipeP, ok_tup, lock_l, lock_t, unlock_l, unlock_t, all_l, all_t, src_t, bmT, bmV, on0, on1, on2, biV, idx_t0, idx_t1, idx_t2, neg_i, tr_b, add_i, sub_i, eq_i, ne_i, lt_i, le_i, gt_i, ge_i, eq_b, dict0, sizeLine_eq, Nat.reduceAdd, Nat.reduceLeDiff, Nat.zero_add, evens, odds, abs_i, max_i]
    refine hR _ (pre_all fun i o e => ?_)
    by_cases z : i = gr
    · rw [z, at_set e1]; rw [z] at e; exact hg.symm.trans e
    · exact at_set_ne (Ne.symm z) (e2 i o z e)
def SpecGrown (G : Env) (fi : Nat) : Prop := ∀ (h : PH) (l0 : Nat) (L : List Line) (l : Line) (Q : PV → PH → Prop), h[l0]? = some (.lst (L.map lv)) → L[0]? = some l → L.length < 1000 →
  (∀ h' gr g, h <+: h' → h'[gr]? = some (.dct (enT trU g) 0) → Gr L l.1 (keysG g) → Q (.ref gr) h') → Ok (G.call fi [.ref l0] h) Q
def SpecLoose (G : Env) (fi : Nat) : Prop := ∀ (h : PH) (l1 l2 gr : Nat) (A C : List Line) (g : Grp) (Q : PV → PH → Prop), h[l1]? = some (.lst (A.map lv)) → h[l2]? = some (.lst (C.map lv)) → h[gr]? = some (.dct (enT trU g) 0) → A.length + C.length < 1000 →
  (∀ h', h <+: h' → Q (.int (looseL A C (keysG g))) h') → Ok (G.call fi [.ref l1, .ref l2, .ref gr] h) Q
def B_due (fg fl : Nat) : List S := [.asg (.nm 2) (.int 0),
  .asg (.nm 3) (.op .add (.var 0) (.var 1)),
  .whl (.cmp .ne (.var 3) (.lst [])) [.asg (.nm 4) (.call fg [.var 3]), .asg (.nm 2) (.op .add (.var 2) (.bi .max2 [.int 1, .op .fdiv (.call fl [.var 0, .var 1, .var 4]) (.int 2)])), .asg (.nm 3) (.lc (.nm 5) (.val (.var 3)) (some (.cmp .nin (.idx (.var 5) (.int 0)) (.var 4))) (.var 5) [5])],
  .ret (.var 2)]
theorem nin_grp {h : PH} {r : Nat} {g : Grp} (e : h[r]? = some (.dct (enT trU g) 0)) (p : Hole) : cmpO .nin (hv p) (.ref r) h = some (decide (p ∉ keysG g)) := by
  have f : fitK (enT trU g) (hv p) = true := fitK_en (k := p)
  rw [nin_d e f, show dget (enT trU g) (hv p) = (aget g p).map trU from dget_en, Option.isSome_map]
  congr 1
  cases e : aget g p with
  | none => exact (decide_eq_true (aget_none.mp e)).symm
  | some v => exact (decide_eq_false fun z => z (List.mem_map.mpr ⟨_, aget_some e, rfl⟩)).symm
def dueP (A C : List Line) : Int := (((groupsP (A ++ C)).map keysG).map (dueF A C)).sum
theorem due_ok {G : Env} {fg fl : Nat} (SG : SpecGrown G fg) (SL : SpecLoose G fl) {N B : Sto → PH → Prop} {R : PV → PH → Prop} {h : PH} {l1 l2 : Nat} {A C : List Line} (h1 : h[l1]? = some (.lst (A.map lv))) (h2 : h[l2]? = some (.lst (C.map lv))) (hz : A.length + C.length < 1000)
    (hR : ∀ h', R (.int (dueP A C)) h') :
    Go (exs G (B_due fg fl) [some (.ref l1), some (.ref l2), none, none, none, none] h) N B R := by
  have hs := sizeLine_eq
  unfold B_due
  simp only [g_nil, g_cons, g_asg, g_expr, g_ret, g_retN, g_pass, g_brk, g_ife, k_var, k_non, k_bl, k_int, k_str, k_op, k_neg, k_not, k_and, k_or, k_and1, k_and2, k_or1, k_or2, k_cmp, k_idx, k_slc, k_iN, k_iS, k_tup, k_lst, k_dic, k_call, k_bi, k_bm, k_isi, k_nil, k_cons, k_T, k_cN, k_cS, k_val, k_rng1, k_rng2, k_enum, k_zip, k_nm, k_tpT, k_tsN, k_tsC, k_sub, ok_ok, List.getElem?_cons_zero, List.getElem?_cons_succ, List.set_cons_zero, List.set_cons_succ, Option.some.injEq, exists_eq_left', List.length_cons, List.length_nil, true_and, and_true, exists_eq_left, wipeP, ok_tup, lock_l, lock_t, unlock_l, unlock_t, all_l, all_t, src_t, bmT, bmV, on0, on1, on2, biV, idx_t0, idx_t1, idx_t2, neg_i, tr_b, add_i, sub_i, eq_i, ne_i, lt_i, le_i, gt_i, ge_i, eq_b, dict0, sizeLine_eq, Nat.reduceAdd, Nat.reduceLeDiff, Nat.zero_add, evens, odds, abs_i, max_i, cat_l h1 h2 (by simp; omega)]
  rw [g_whl]
  refine while_inv (fun m σ hh => ∃ lf L gs fo x4 x5, σ = [some (.ref l1), some (.ref l2), some (.int fo), some (.ref lf), x4, x5] ∧ h <+: hh ∧ hh[lf]? = some (.lst (L.map lv)) ∧ L.length < 1000 ∧ Part L gs ∧ fo + (gs.map (dueF A C)).sum = dueP A C ∧ m = L.length) ?_ nfuel (A ++ C).length _ _ (by rw [List.length_append]; unfold nfuel; omega) ?_
  · rintro m σ hh ⟨lf, L, gs, fo, x4, x5, rfl, e1, e2, e3, P, e4, rfl⟩
    have nn := ne_nil (m := hh.length) (at_app (t := [PO.lst []]) e2) at_new
    simp only [g_nil, g_cons, g_asg, g_expr, g_ret, g_retN, g_pass, g_brk, g_ife, k_var, k_non, k_bl, k_int, k_str, k_op, k_neg, k_not, k_and, k_or, k_and1, k_and2, k_or1, k_or2, k_cmp, k_idx, k_slc, k_iN, k_iS, k_tup, k_lst, k_dic, k_call, k_bi, k_bm, k_isi, k_nil, k_cons, k_T, k_cN, k_cS, k_val, k_rng1, k_rng2, k_enum, k_zip, k_nm, k_tpT, k_tsN, k_tsC, k_sub, ok_ok, List.getElem?_cons_zero, List.getElem?_cons_succ, List.set_cons_zero, List.set_cons_succ, Option.some.injEq, exists_eq_left', List.length_cons, List.length_nil, true_and, and_true, exists_eq_left, wipeP, ok_tup, lock_l, lock_t, unlock_l, unlock_t, all_l, all_t, src_t, bmT, bmV, on0, on1, on2, biV, idx_t0, idx_t1, idx_t2, neg_i, tr_b, add_i, sub_i, eq_i, ne_i, lt_i, le_i, gt_i, ge_i, eq_b, dict0, sizeLine_eq, Nat.reduceAdd, Nat.reduceLeDiff, Nat.zero_add, evens, odds, abs_i, max_i, nn]
    cases L with
    | nil =>
      rw [if_neg (by simp)]
      have := part_nil P
      subst this
      have e4 : fo = dueP A C := by simpa using e4
      rw [e4]
      exact hR _
    | cons l r =>
      rw [if_pos (by simp)]
      refine SG _ _ (l :: r) l _ (at_app e2) rfl e3 fun h3 gr g p3 eg gg => ?_
      have p4 : h <+: h3 := (pre_app e1).trans p3
      simp only [g_nil, g_cons, g_asg, g_expr, g_ret, g_retN, g_pass, g_brk, g_ife, k_var, k_non, k_bl, k_int, k_str, k_op, k_neg, k_not, k_and, k_or, k_and1, k_and2, k_or1, k_or2, k_cmp, k_idx, k_slc, k_iN, k_iS, k_tup, k_lst, k_dic, k_call, k_bi, k_bm, k_isi, k_nil, k_cons, k_T, k_cN, k_cS, k_val, k_rng1, k_rng2, k_enum, k_zip, k_nm, k_tpT, k_tsN, k_tsC, k_sub, ok_ok, List.getElem?_cons_zero, List.getElem?_cons_succ, List.set_cons_zero, List.set_cons_succ, Option.some.injEq, exists_eq_left', List.length_cons, List.length_nil, true_and, and_true, exists_eq_left, wipeP, ok_tup, lock_l, lock_t, unlock_l, unlock_t, all_l, all_t, src_t, bmT, bmV, on0, on1, on2, biV, idx_t0, idx_t1, idx_t2, neg_i, tr_b, add_i, sub_i, eq_i, ne_i, lt_i, le_i, gt_i, ge_i, eq_b, dict0, sizeLine_eq, Nat.reduceAdd, Nat.reduceLeDiff, Nat.zero_add, evens, odds, abs_i, max_i]
      refine SL _ _ _ _ A C g _ (pre_at p4 h1) (pre_at p4 h2) eg hz fun h4 p5 => ?_
      have dv : opV .fdiv (.int (looseL A C (keysG g))) (.int 2) h4 = some (.int (looseL A C (keysG g) / 2), h4) := div_i (by decide) (by decide)
      simp only [g_nil, g_cons, g_asg, g_expr, g_ret, g_retN, g_pass, g_brk, g_ife, k_var, k_non, k_bl, k_int, k_str, k_op, k_neg, k_not, k_and, k_or, k_and1, k_and2, k_or1, k_or2, k_cmp, k_idx, k_slc, k_iN, k_iS, k_tup, k_lst, k_dic, k_call, k_bi, k_bm, k_isi, k_nil, k_cons, k_T, k_cN, k_cS, k_val, k_rng1, k_rng2, k_enum, k_zip, k_nm, k_tpT, k_tsN, k_tsC, k_sub, ok_ok, List.getElem?_cons_zero, List.getElem?_cons_succ, List.set_cons_zero, List.set_cons_succ, Option.some.injEq, exists_eq_left', List.length_cons, List.length_nil, true_and, and_true, exists_eq_left, wipeP, ok_tup, lock_l, lock_t, unlock_l, unlock_t, all_l, all_t, src_t, bmT, bmV, on0, on1, on2, biV, idx_t0, idx_t1, idx_t2, neg_i, tr_b, add_i, sub_i, eq_i, ne_i, lt_i, le_i, gt_i, ge_i, eq_b, dict0, sizeLine_eq, Nat.reduceAdd, Nat.reduceLeDiff, Nat.zero_add, evens, odds, abs_i, max_i, dv]
      have e2' : h4[lf]? = some (.lst ((l :: r).map lv)) := pre_at p5 (pre_at p3 (at_app e2))
      have eg' := pre_at p5 eg
      refine pick_ok (l := lf) (A := l :: r) (f := fun l => decide (l.1 ∉ keysG g)) e2' (by omega) rfl (by simp) (fun l u eu Q q => ?_) ?_
      · rw [eu]
        have i0 : idxV (lv l) (.int 0) h4 = some (hv l.1, h4) := idx_t0
        simp only [g_nil, g_cons, g_asg, g_expr, g_ret, g_retN, g_pass, g_brk, g_ife, k_var, k_non, k_bl, k_int, k_str, k_op, k_neg, k_not, k_and, k_or, k_and1, k_and2, k_or1, k_or2, k_cmp, k_idx, k_slc, k_iN, k_iS, k_tup, k_lst, k_dic, k_call, k_bi, k_bm, k_isi, k_nil, k_cons, k_T, k_cN, k_cS, k_val, k_rng1, k_rng2, k_enum, k_zip, k_nm, k_tpT, k_tsN, k_tsC, k_sub, ok_ok, List.getElem?_cons_zero, List.getElem?_cons_succ, List.set_cons_zero, List.set_cons_succ, Option.some.injEq, exists_eq_left', List.length_cons, List.length_nil, true_and, and_true, exists_eq_left, wipeP, ok_tup, lock_l, lock_t, unlock_l, unlock_t, all_l, all_t, src_t, bmT, bmV, on0, on1, on2, biV, idx_t0, idx_t1, idx_t2, neg_i, tr_b, add_i, sub_i, eq_i, ne_i, lt_i, le_i, gt_i, ge_i, eq_b, dict0, sizeLine_eq, Nat.reduceAdd, Nat.reduceLeDiff, Nat.zero_add, evens, odds, abs_i, max_i, i0, nin_grp eg']
        exact q
      obtain ⟨gs', P', es⟩ := part_step P List.mem_cons_self gg (dueF A C) (dueF_perm A C)
      have lt : ((l :: r).filter fun l => decide (l.1 ∉ keysG g)).length < (l :: r).length := by
        rw [List.filter_cons, if_neg (by simp; exact gg.st), List.length_cons]
        have := List.length_filter_le (fun l : Line => decide (l.1 ∉ keysG g)) r
        omega
      refine ⟨_, lt, _, (l :: r).filter fun l => decide (l.1 ∉ keysG g), gs', fo + dueF A C (keysG g), _, _, rfl, pre_app (p4.trans p5), at_new, by omega, P', by omega, rfl⟩
  · exact ⟨_, A ++ C, _, _, _, _, rfl, List.prefix_append _ _, by rw [at_new, List.map_append], by rw [List.length_append]; omega, part_groups (A ++ C), by unfold dueP; omega, rfl⟩
end Z
end

section
set_option Elab.async false
set_option linter.all false
set_option maxRecDepth 100000
set_option autoImplicit false
set_option maxHeartbeats 2000000
/-! P9: the law k34. -/
namespace Z
open PySem L2
open En

def SpecDue (G : Env) (fi : Nat) : Prop := ∀ (h : PH) (l1 l2 : Nat) (A C : List Line) (Q : PV → PH → Prop), h[l1]? = some (.lst (A.map lv)) → h[l2]? = some (.lst (C.map lv)) → A.length + C.length < 1000 →
  (∀ h', Q (.int (dueP A C)) h') → Ok (G.call fi [.ref l1, .ref l2] h) Q
theorem dd_face {h : PH} {l : Nat} {A : List Line} (e : h[l]? = some (.lst (A.map lv))) : dat h 11 (.ref l) = some (.list (A.map ld)) := by
  have : optAll ((A.map lv).map (dat h 10)) = some (A.map ld) := by
    rw [List.map_map]
    exact optAll_mp fun l _ => by simp [lv, ld, hv, hd, dat, optAll]
  rw [dat, e]
  dsimp only
  rw [this]
  rfl
theorem faces_sh (A C : List Line) : SeqAt.shaped (.tuple [.list (A.map ld), .list (C.map ld)]) = true := by
  have a := lst_sh (A := A)
  have c := lst_sh (A := C)
  have a1 := SeqAt.canLay_of_shaped a
  have c1 := SeqAt.canLay_of_shaped c
  have dep : ∀ A : List Line, PyData.depth (.list (A.map ld)) ≤ 5 := by
    intro A
    rw [PyData.depth]
    have : PyData.depthAll (A.map ld) ≤ 4 := by
      induction A with
      | nil => simp [PyData.depthAll]
      | cons l r ih =>
        rw [List.map_cons]
        simp only [PyData.depthAll, ld, hd, PyData.depth]
        omega
    omega
  have d1 := dep A
  have d2 := dep C
  unfold SeqAt.shaped
  rw [PyData.canLay0, PyData.canLayAll0, PyData.canLayAll0, PyData.canLayAll0, a1, c1]
  rw [PyData.depth, PyData.depthAll, PyData.depthAll, PyData.depthAll]
  refine (Bool.true_and _).trans (decide_eq_true ?_)
  omega
theorem ne_faces {h : PH} {a b c d : Nat} {A C : List Line} (ea : h[a]? = some (.lst (A.map lv))) (eb : h[b]? = some (.lst (C.map lv))) (ec : h[c]? = some (.lst (A.map lv))) (ed : h[d]? = some (.lst (C.map lv))) :
    cmpO .ne (.tup [.ref a, .ref b]) (.tup [.ref c, .ref d]) h = some false := by
  have t : ∀ {a b : Nat}, h[a]? = some (.lst (A.map lv)) → h[b]? = some (.lst (C.map lv)) → dd h (.tup [.ref a, .ref b]) = some (.tuple [.list (A.map ld), .list (C.map ld)]) := by
    intro a b ea eb
    unfold dd
    rw [dat, List.map_cons, List.map_cons, List.map_nil, dd_face ea, dd_face eb]
    rfl
  show (pyEq h _ _).map (!·) = _
  unfold pyEq
  simp only [isScal, Bool.false_and, Bool.false_eq_true, if_false, t ea eb, t ec ed, faces_sh, Bool.and_self, if_true, Option.map_some, SeqAt.eqv_refl _ (SeqAt.canLay_of_shaped (faces_sh A C)), Bool.not_true]
def B_law (fw fn fd : Nat) : List S := [.asg (.tp [.nm 1, .nm 2]) (.call fw [.var 0]),
  .asg (.nm 3) (.tup [.bi .list [.var 1], .bi .list [.var 2]]),
  .asg (.nm 4) (.call fn [.var 3]),
  .ife (.or [.not (.isi (.var 4) .int), .isi (.var 4) .bool, .cmp .ne (.var 3) (.tup [.var 1, .var 2])]) [.ret (.bl false)] [],
  .ret (.cmp .eq (.var 4) (.call fd [.var 1, .var 2]))]
theorem law_ok {G : Env} {fw fn fd : Nat} (SW : SpecWork G fw) (SN : SpecNeed G fn) (SD : SpecDue G fd) {N B : Sto → PH → Prop} {R : PV → PH → Prop} {h : PH} {ns : List Int} (hR : ∀ h', R (.bl true) h') :
    Go (exs G (B_law fw fn fd) [some (roN ns), none, none, none, none] h) N B R := by
  have hs := sizeLine_eq
  unfold B_law
  simp only [g_nil, g_cons, g_asg, g_expr, g_ret, g_retN, g_pass, g_brk, g_ife, k_var, k_non, k_bl, k_int, k_str, k_op, k_neg, k_not, k_and, k_or, k_and1, k_and2, k_or1, k_or2, k_cmp, k_idx, k_slc, k_iN, k_iS, k_tup, k_lst, k_dic, k_call, k_bi, k_bm, k_isi, k_nil, k_cons, k_T, k_cN, k_cS, k_val, k_rng1, k_rng2, k_enum, k_zip, k_nm, k_tpT, k_tsN, k_tsC, k_sub, ok_ok, List.getElem?_cons_zero, List.getElem?_cons_succ, List.set_cons_zero, List.set_cons_succ, Option.some.injEq, exists_eq_left', List.length_cons, List.length_nil, true_and, and_true, exists_eq_left, wipeP, ok_tup, lock_l, lock_t, unlock_l, unlock_t, all_l, all_t, src_t, bmT, bmV, on0, on1, on2, biV, idx_t0, idx_t1, idx_t2, neg_i, tr_b, add_i, sub_i, eq_i, ne_i, lt_i, le_i, gt_i, ge_i, eq_b, dict0, sizeLine_eq, Nat.reduceAdd, Nat.reduceLeDiff, Nat.zero_add, evens, odds, abs_i, max_i]
  refine SW _ _ _ fun h1 r a b A C p1 er ea eb la lc dA dC => ?_
  rw [k_tpL]
  refine ⟨_, er, rfl, ?_⟩
  have s1 : listV (.ref a) h1 = some (.ref h1.length, h1 ++ [.lst (A.map lv)]) := lst_l ea
  have s2 : listV (.ref b) (h1 ++ [.lst (A.map lv)]) = some (.ref (h1 ++ [PO.lst (A.map lv)]).length, h1 ++ [.lst (A.map lv)] ++ [.lst (C.map lv)]) := lst_l (at_app eb)
  simp only [g_nil, g_cons, g_asg, g_expr, g_ret, g_retN, g_pass, g_brk, g_ife, k_var, k_non, k_bl, k_int, k_str, k_op, k_neg, k_not, k_and, k_or, k_and1, k_and2, k_or1, k_or2, k_cmp, k_idx, k_slc, k_iN, k_iS, k_tup, k_lst, k_dic, k_call, k_bi, k_bm, k_isi, k_nil, k_cons, k_T, k_cN, k_cS, k_val, k_rng1, k_rng2, k_enum, k_zip, k_nm, k_tpT, k_tsN, k_tsC, k_sub, ok_ok, List.getElem?_cons_zero, List.getElem?_cons_succ, List.set_cons_zero, List.set_cons_succ, Option.some.injEq, exists_eq_left', List.length_cons, List.length_nil, true_and, and_true, exists_eq_left, wipeP, ok_tup, lock_l, lock_t, unlock_l, unlock_t, all_l, all_t, src_t, bmT, bmV, on0, on1, on2, biV, idx_t0, idx_t1, idx_t2, neg_i, tr_b, add_i, sub_i, eq_i, ne_i, lt_i, le_i, gt_i, ge_i, eq_b, dict0, sizeLine_eq, Nat.reduceAdd, Nat.reduceLeDiff, Nat.zero_add, evens, odds, abs_i, max_i, s1, s2]
  have e1 : (h1 ++ [PO.lst (A.map lv)] ++ [PO.lst (C.map lv)])[h1.length]? = some (.lst (A.map lv)) := at_app at_new
  have e2 : (h1 ++ [PO.lst (A.map lv)] ++ [PO.lst (C.map lv)])[(h1 ++ [PO.lst (A.map lv)]).length]? = some (.lst (C.map lv)) := at_new
  refine SN _ _ _ A C _ e1 e2 (by omega) fun h2 p2 => ?_
  have i1 : isiV G.sub (.int (needP A C)) .int h2 = some true := rfl
  have i2 : isiV G.sub (.int (needP A C)) .bool h2 = some false := rfl
  have ea2 := pre_at p2 (at_app (t := [PO.lst (C.map lv)]) (at_app (t := [PO.lst (A.map lv)]) ea))
  have eb2 := pre_at p2 (at_app (t := [PO.lst (C.map lv)]) (at_app (t := [PO.lst (A.map lv)]) eb))
  simp only [g_nil, g_cons, g_asg, g_expr, g_ret, g_retN, g_pass, g_brk, g_ife, k_var, k_non, k_bl, k_int, k_str, k_op, k_neg, k_not, k_and, k_or, k_and1, k_and2, k_or1, k_or2, k_cmp, k_idx, k_slc, k_iN, k_iS, k_tup, k_lst, k_dic, k_call, k_bi, k_bm, k_isi, k_nil, k_cons, k_T, k_cN, k_cS, k_val, k_rng1, k_rng2, k_enum, k_zip, k_nm, k_tpT, k_tsN, k_tsC, k_sub, ok_ok, List.getElem?_cons_zero, List.getElem?_cons_succ, List.set_cons_zero, List.set_cons_succ, Option.some.injEq, exists_eq_left', List.length_cons, List.length_nil, true_and, and_true, exists_eq_left, wipeP, ok_tup, lock_l, lock_t, unlock_l, unlock_t, all_l, all_t, src_t, bmT, bmV, on0, on1, on2, biV, idx_t0, idx_t1, idx_t2, neg_i, tr_b, add_i, sub_i, eq_i, ne_i, lt_i, le_i, gt_i, ge_i, eq_b, dict0, sizeLine_eq, Nat.reduceAdd, Nat.reduceLeDiff, Nat.zero_add, evens, odds, abs_i, max_i, i1, i2, ne_faces (pre_at p2 e1) (pre_at p2 e2) ea2 eb2, Bool.not_true, Bool.false_eq_true, if_false]
  refine SD _ _ _ A C _ ea2 eb2 (by omega) fun h3 => ?_
  have e : needP A C = dueP A C := needP_eq dA dC
  simp only [e, g_nil, g_cons, g_asg, g_expr, g_ret, g_retN, g_pass, g_brk, g_ife, k_var, k_non, k_bl, k_int, k_str, k_op, k_neg, k_not, k_and, k_or, k_and1, k_and2, k_or1, k_or2, k_cmp, k_idx, k_slc, k_iN, k_iS, k_tup, k_lst, k_dic, k_call, k_bi, k_bm, k_isi, k_nil, k_cons, k_T, k_cN, k_cS, k_val, k_rng1, k_rng2, k_enum, k_zip, k_nm, k_tpT, k_tsN, k_tsC, k_sub, ok_ok, List.getElem?_cons_zero, List.getElem?_cons_succ, List.set_cons_zero, List.set_cons_succ, Option.some.injEq, exists_eq_left', List.length_cons, List.length_nil, true_and, and_true, exists_eq_left, wipeP, ok_tup, lock_l, lock_t, unlock_l, unlock_t, all_l, all_t, src_t, bmT, bmV, on0, on1, on2, biV, idx_t0, idx_t1, idx_t2, neg_i, tr_b, add_i, sub_i, eq_i, ne_i, lt_i, le_i, gt_i, ge_i, eq_b, dict0, sizeLine_eq, Nat.reduceAdd, Nat.reduceLeDiff, Nat.zero_add, evens, odds, abs_i, max_i, decide_true]
  exact hR _
section
variable {T : List DefI} {sub : Nat → Nat → Bool} {k fi fe fc ff fg fl fw fn fd : Nat} {d : DefI}
theorem spec_cell (hd : T[fi]? = some d) (hn : d.n = 2) (hN : d.N.length = 2) (hb : d.body = B_cell) : SpecCell (lvl T sub (k + 1)) fi := by
  intro h ns i Q a b
  refine call_lvl hd hn.symm ?_
  rw [hN, hb]
  exact cell_ok a b
theorem spec_ends (hd : T[fi]? = some d) (hn : d.n = 2) (hN : d.N.length = 7) (hb : d.body = B_ends) : SpecEnds (lvl T sub (k + 1)) fi := by
  intro h c f Q a
  refine call_lvl hd hn.symm ?_
  rw [hN, hb]
  exact ends_ok a
theorem spec_far (hd : T[fi]? = some d) (hn : d.n = 1) (hN : d.N.length = 1) (hb : d.body = B_far) : SpecFar (lvl T sub (k + 1)) fi := by
  intro h c Q a
  refine call_lvl hd hn.symm ?_
  rw [hN, hb]
  exact far_ok a
theorem spec_work (SE : SpecEnds (lvl T sub k) fe) (SC : SpecCell (lvl T sub k) fc) (SF : SpecFar (lvl T sub k) ff) (hd : T[fi]? = some d) (hn : d.n = 1) (hN : d.N.length = 10) (hb : d.body = B_work fe fc ff) : SpecWork (lvl T sub (k + 1)) fi := by
  intro h ns Q a
  refine call_lvl hd hn.symm ?_
  rw [hN, hb]
  exact work_ok SE SC SF a
theorem spec_grown (hd : T[fi]? = some d) (hn : d.n = 1) (hN : d.N.length = 5) (hb : d.body = B_grown) : SpecGrown (lvl T sub (k + 1)) fi := by
  intro h l0 L l Q a b c e
  refine call_lvl hd hn.symm ?_
  rw [hN, hb]
  exact grown_ok a b c e
theorem spec_loose (hd : T[fi]? = some d) (hn : d.n = 3) (hN : d.N.length = 7) (hb : d.body = B_loose) : SpecLoose (lvl T sub (k + 1)) fi := by
  intro h l1 l2 gr A C g Q a b c e f
  refine call_lvl hd hn.symm ?_
  rw [hN, hb]
  exact loose_ok a b c e f
theorem spec_due (SG : SpecGrown (lvl T sub k) fg) (SL : SpecLoose (lvl T sub k) fl) (hd : T[fi]? = some d) (hn : d.n = 2) (hN : d.N.length = 6) (hb : d.body = B_due fg fl) : SpecDue (lvl T sub (k + 1)) fi := by
  intro h l1 l2 A C Q a b c e
  refine call_lvl hd hn.symm ?_
  rw [hN, hb]
  exact due_ok SG SL a b c e
end
end Z
end

section
set_option Elab.async false
set_option linter.all false
set_option maxRecDepth 100000
set_option maxHeartbeats 0
set_option autoImplicit false

namespace HD
open PySem PySem.Spec PyProof.Rows L2 Z
def top (i : Nat) : Stmt := PySem.Challenge.pw_bothfaces_k34_need.main.body.getD i (.Pass ⟨0, 0, 0, 0⟩)
def h1 : He.DefD := ⟨("surplus", none), "surplus", "surplus", defArgs (top 1), defBody (top 1), defScope (top 1), [], []⟩
def h3 : He.DefD := ⟨("groups_of", none), "groups_of", "groups_of", defArgs (top 3), defBody (top 3), defScope (top 3), [], []⟩
def h4 : He.DefD := ⟨("pieces", none), "pieces", "pieces", defArgs (top 4), defBody (top 4), defScope (top 4), [], []⟩
def h5 : He.DefD := ⟨("need", none), "need", "need", defArgs (top 5), defBody (top 5), defScope (top 5), [], []⟩
def h7 : He.DefD := ⟨("_law_cell_at", none), "_law_cell_at", "_law_cell_at", defArgs (top 7), defBody (top 7), defScope (top 7), [], []⟩
def h8 : He.DefD := ⟨("_law_ends", none), "_law_ends", "_law_ends", defArgs (top 8), defBody (top 8), defScope (top 8), [], []⟩
def h9 : He.DefD := ⟨("_law_far", none), "_law_far", "_law_far", defArgs (top 9), defBody (top 9), defScope (top 9), [], []⟩
def h10 : He.DefD := ⟨("_law_work", none), "_law_work", "_law_work", defArgs (top 10), defBody (top 10), defScope (top 10), [], []⟩
def h11 : He.DefD := ⟨("_law_grown", none), "_law_grown", "_law_grown", defArgs (top 11), defBody (top 11), defScope (top 11), [], []⟩
def h12 : He.DefD := ⟨("_law_loose", none), "_law_loose", "_law_loose", defArgs (top 12), defBody (top 12), defScope (top 12), [], []⟩
def h13 : He.DefD := ⟨("_law_due", none), "_law_due", "_law_due", defArgs (top 13), defBody (top 13), defScope (top 13), [], []⟩
def h14 : He.DefD := ⟨("law", none), "law", "law", defArgs (top 14), defBody (top 14), defScope (top 14), [], []⟩
def fn : List He.DefD := [h1, h3, h4, h5, h7, h8, h9, h10, h11, h12, h13, h14]
def fa : List He.Fa := [.glo "surplus", .glo "groups_of", .glo "pieces", .glo "need", .glo "_law_cell_at", .glo "_law_ends", .glo "_law_far", .glo "_law_work", .glo "_law_grown", .glo "_law_loose", .glo "_law_due", .glo "law", .free "abs", .free "bool", .free "int", .free "isinstance", .free "len", .free "list", .free "max", .free "min", .free "range", .free "sorted", .free "sum"]
def b_surplus : List S := [.asg (.nm 1) (.dic []),
  .for_ (.tp [.nm 2, .nm 3]) (.val (.lst [.tup [.idx (.var 0) (.int 0), .int 1], .tup [.idx (.var 0) (.int 1), .neg (.int 1)]])) [.for_ (.nm 4) (.val (.var 2)) [.for_ (.nm 5) (.val (.var 4)) [.asg (.sub (.var 1) (.var 5)) (.op .add (.bm .get2 (.var 1) [.var 5, .int 0]) (.var 3))]]],
  .ret (.lc (.nm 5) (.val (.bi .sorted [.var 1])) (some (.cmp .ne (.idx (.var 1) (.var 5)) (.int 0))) (.tup [.var 5, .idx (.var 1) (.var 5)]) [5])]
def d_surplus : DefI := ⟨"surplus", ["work", "found", "lines", "more", "ends", "hole"], 1, b_surplus, top 1⟩
def b_groups_of : List S := [.asg (.nm 1) (.lst []),
  .for_ (.tp [.nm 2, .nm 3]) (.val (.var 0)) [.asg (.nm 4) (.dic [.var 2, .bl true, .var 3, .bl true]), .asg (.nm 5) (.lst []), .for_ (.nm 6) (.val (.var 1)) [.ife (.or [.cmp .isin (.var 2) (.var 6), .cmp .isin (.var 3) (.var 6)]) [.expr (.bm .update (.var 4) [.var 6])] [.expr (.bm .append (.var 5) [.var 6])]], .asg (.nm 1) (.op .add (.var 5) (.lst [.var 4]))],
  .ret (.var 1)]
def d_groups_of : DefI := ⟨"groups_of", ["lines", "groups", "one", "other", "joint", "apart", "group"], 1, b_groups_of, top 3⟩
def b_pieces : List S := [.asg (.tp [.nm 1, .nm 2]) (.var 0),
  .asg (.nm 3) (.lst []),
  .for_ (.nm 4) (.val (.bi .sortedMin [.call 1 [.op .add (.var 1) (.var 2)]])) [.expr (.bm .append (.var 3) [.tup [.lc (.nm 5) (.val (.var 1)) (some (.cmp .isin (.idx (.var 5) (.int 0)) (.var 4))) (.var 5) [5], .lc (.nm 5) (.val (.var 2)) (some (.cmp .isin (.idx (.var 5) (.int 0)) (.var 4))) (.var 5) [5]]])],
  .ret (.var 3)]
def d_pieces : DefI := ⟨"pieces", ["work", "front", "back", "found", "group", "ends"], 1, b_pieces, top 4⟩
def b_need : List S := [.asg (.nm 1) (.int 0),
  .for_ (.nm 2) (.val (.call 2 [.var 0])) [.asg (.nm 3) (.bi .sum [.lc (.tp [.nm 4, .nm 5]) (.val (.call 0 [.var 2])) none (.bi .abs [.var 5]) [4, 5]]), .asg (.nm 1) (.op .add (.var 1) (.bi .max2 [.int 1, .op .fdiv (.var 3) (.int 2)]))],
  .ret (.var 1)]
def d_need : DefI := ⟨"need", ["work", "threads", "piece", "loose", "hole", "more"], 1, b_need, top 5⟩
def b__law_cell_at : List S := [.ife (.cmp .lt (.var 1) (.bi .len [.var 0])) [.ret (.idx (.var 0) (.var 1))] [],
  .ret (.int 0)]
def d__law_cell_at : DefI := ⟨"_law_cell_at", ["_law_script", "_law_k"], 2, b__law_cell_at, top 7⟩
def b__law_ends : List S := [.asg (.nm 2) (.op .mod (.op .mul (.var 0) (.int 48271)) (.int 2147483629)),
  .asg (.nm 3) (.op .add (.op .mod (.var 2) (.int 4)) (.var 1)),
  .asg (.nm 4) (.op .sub (.op .mod (.op .fdiv (.var 2) (.int 4)) (.int 4)) (.var 1)),
  .asg (.nm 5) (.op .sub (.op .mod (.op .fdiv (.var 2) (.int 16)) (.int 5)) (.int 2)),
  .asg (.nm 6) (.op .sub (.op .mod (.op .fdiv (.var 2) (.int 80)) (.int 5)) (.int 2)),
  .ife (.cmp .eq (.op .mod (.op .fdiv (.var 2) (.int 400)) (.int 8)) (.int 1)) [.asg (.nm 5) (.op .sub (.op .mod (.op .fdiv (.var 2) (.int 3200)) (.int 19)) (.int 9)), .asg (.nm 6) (.op .sub (.op .mod (.op .fdiv (.var 2) (.int 60800)) (.int 19)) (.int 9))] [],
  .ife (.and [.cmp .eq (.var 5) (.int 0), .cmp .eq (.var 6) (.int 0)]) [.asg (.nm 5) (.int 1)] [],
  .ife (.or [.cmp .lt (.var 5) (.int 0), .and [.cmp .eq (.var 5) (.int 0), .cmp .lt (.var 6) (.int 0)]]) [.ret (.tup [.tup [.op .add (.var 3) (.var 5), .op .add (.var 4) (.var 6)], .tup [.var 3, .var 4]])] [],
  .ret (.tup [.tup [.var 3, .var 4], .tup [.op .add (.var 3) (.var 5), .op .add (.var 4) (.var 6)]])]
def d__law_ends : DefI := ⟨"_law_ends", ["_law_cell", "_law_far_here", "_law_number", "_law_x", "_law_y", "_law_east", "_law_north"], 2, b__law_ends, top 8⟩
def b__law_far : List S := [.ret (.idx (.lst [.int 0, .int 0, .int 0, .op .sub (.op .pow (.int 10) (.int 9)) (.int 12), .op .sub (.int 12) (.op .pow (.int 10) (.int 9))]) (.op .mod (.var 0) (.int 5)))]
def d__law_far : DefI := ⟨"_law_far", ["_law_cell"], 1, b__law_far, top 9⟩
def b__law_work : List S := [.asg (.nm 1) (.call 6 [.call 4 [.var 0, .int 1]]),
  .asg (.nm 2) (.cmp .eq (.op .mod (.call 4 [.var 0, .int 0]) (.int 3)) (.int 1)),
  .asg (.nm 3) (.lst [.dic [], .dic []]),
  .for_ (.nm 4) (.val (.slc (.var 0) (some (.int 2)) (some (.int 62)))) [.asg (.tp [.nm 5, .nm 6]) (.call 5 [.var 4, .var 1]), .ife (.cmp .eq (.op .mod (.op .fdiv (.call 4 [.var 0, .int 0]) (.int 3)) (.int 4)) (.int 1)) [.asg (.nm 5) (.tup [.var 1, .op .sub (.int 0) (.var 1)]), .asg (.nm 6) (.tup [.op .add (.op .add (.idx (.var 5) (.int 0)) (.int 1)) (.op .mod (.op .fdiv (.op .mod (.op .mul (.var 4) (.int 16807)) (.int 1000000009)) (.int 64)) (.int 9)), .op .sub (.op .add (.idx (.var 5) (.int 1)) (.op .mod (.op .fdiv (.op .mod (.op .mul (.var 4) (.int 30271)) (.int 1000003)) (.int 64)) (.int 19))) (.int 9)])] [], .asg (.nm 7) (.op .mod (.op .fdiv (.op .mod (.op .mul (.var 4) (.int 30269)) (.int 998244353)) (.int 64)) (.int 8)), .for_ (.nm 8) (.rng1 (.int 2)) [.ife (.or [.cmp .eq (.op .mod (.var 7) (.int 2)) (.var 8), .cmp .gt (.var 7) (.int 5), .var 2]) [.asg (.sub (.idx (.var 3) (.var 8)) (.tup [.var 5, .var 6])) (.bl true)] []]],
  .ret (.lc (.nm 9) (.val (.var 3)) none (.bi .sorted [.var 9]) [9])]
def d__law_work : DefI := ⟨"_law_work", ["_law_script", "_law_far_here", "_law_both", "_law_faces", "_law_cell", "_law_one", "_law_other", "_law_side", "_law_k", "_law_face"], 1, b__law_work, top 10⟩
def b__law_grown : List S := [.asg (.nm 1) (.dic [.idx (.idx (.var 0) (.int 0)) (.int 0), .bl true]),
  .asg (.nm 2) (.int 0),
  .whl (.cmp .lt (.var 2) (.bi .len [.var 1])) [.asg (.nm 2) (.bi .len [.var 1]), .for_ (.tp [.nm 3, .nm 4]) (.val (.var 0)) [.ife (.or [.cmp .isin (.var 3) (.var 1), .cmp .isin (.var 4) (.var 1)]) [.asg (.sub (.var 1) (.var 3)) (.bl true), .asg (.sub (.var 1) (.var 4)) (.bl true)] []]],
  .ret (.var 1)]
def d__law_grown : DefI := ⟨"_law_grown", ["_law_lines", "_law_holes", "_law_many", "_law_one", "_law_other"], 1, b__law_grown, top 11⟩
def b__law_loose : List S := [.asg (.nm 3) (.int 0),
  .for_ (.nm 4) (.val (.var 2)) [.asg (.nm 5) (.op .sub (.bi .len [.lc (.nm 6) (.val (.var 0)) (some (.cmp .isin (.var 4) (.var 6))) (.var 6) [6]]) (.bi .len [.lc (.nm 6) (.val (.var 1)) (some (.cmp .isin (.var 4) (.var 6))) (.var 6) [6]])), .asg (.nm 3) (.op .add (.var 3) (.bi .abs [.var 5]))],
  .ret (.var 3)]
def d__law_loose : DefI := ⟨"_law_loose", ["_law_front", "_law_back", "_law_holes", "_law_found", "_law_hole", "_law_more", "_law_ends_here"], 3, b__law_loose, top 12⟩
def b__law_due : List S := [.asg (.nm 2) (.int 0),
  .asg (.nm 3) (.op .add (.var 0) (.var 1)),
  .whl (.cmp .ne (.var 3) (.lst [])) [.asg (.nm 4) (.call 8 [.var 3]), .asg (.nm 2) (.op .add (.var 2) (.bi .max2 [.int 1, .op .fdiv (.call 9 [.var 0, .var 1, .var 4]) (.int 2)])), .asg (.nm 3) (.lc (.nm 5) (.val (.var 3)) (some (.cmp .nin (.idx (.var 5) (.int 0)) (.var 4))) (.var 5) [5])],
  .ret (.var 2)]
def d__law_due : DefI := ⟨"_law_due", ["_law_front", "_law_back", "_law_found", "_law_left", "_law_holes", "_law_ends_here"], 2, b__law_due, top 13⟩
def b_law : List S := [.asg (.tp [.nm 1, .nm 2]) (.call 7 [.var 0]),
  .asg (.nm 3) (.tup [.bi .list [.var 1], .bi .list [.var 2]]),
  .asg (.nm 4) (.call 3 [.var 3]),
  .ife (.or [.not (.isi (.var 4) .int), .isi (.var 4) .bool, .cmp .ne (.var 3) (.tup [.var 1, .var 2])]) [.ret (.bl false)] [],
  .ret (.cmp .eq (.var 4) (.call 10 [.var 1, .var 2]))]
def d_law : DefI := ⟨"law", ["_law_script", "_law_front", "_law_back", "_law_handed", "_law_found"], 1, b_law, top 14⟩
def T : List DefI := [d_surplus, d_groups_of, d_pieces, d_need, d__law_cell_at, d__law_ends, d__law_far, d__law_work, d__law_grown, d__law_loose, d__law_due, d_law]
def blt : List Str := ["abs", "bool", "int", "isinstance", "len", "list", "max", "min", "range", "sorted", "sum"]
theorem chk : (T.all (chkDef T blt)) = true := by kernel_rfl
def nms : List PySem.Str := ["surplus", "groups_of", "pieces", "need", "_law_cell_at", "_law_ends", "_law_far", "_law_work", "_law_grown", "_law_loose", "_law_due"]
abbrev R : PySem.W.OpenRow := PySem.W.OpenLaw.row PySem.Challenge.rw_bothfaces_k34_need
abbrev hk : PySem.W.Hook := He.hookD 5 fa fn
def ob (s : PySem.W.SharedT) : He.AlD := He.obsDG 5 fa fn (HandSHeadRun.getT s)
theorem ob_eq (s : PySem.W.SharedT) : ob s = hk.obs s.abs := He.obsDG_eq (HandSHeadRun.getT_eq s)
theorem run (w : World) : HandSHeadRun.RunEq R (PySem.W.view R.prog [14]) hk ob 4000 nms w := by
  intro os
  kernel_rfl
theorem txt {K : PySem.W.Frag} {h : Heap} {mg : Str → Option Value} (X : K.In h) (Gn : h.Ns mainGlobals mg) (c : He.SaysD fa fn K) : Txt T blt K mg := by
  refine ⟨fun i d hd => ?_, fun x hx => ?_⟩
  · match i, hd with
    | 0, hd =>
      cases hd
      obtain ⟨fd, F⟩ := c.def_ 0 (d := h1) rfl
      exact ⟨_, fd, F, He.glo_ok X Gn (c.fact 0 (f := .glo "surplus") rfl), FunD.bindsN F fun _ _ _ _ _ _ us hl => match us, hl with | [_], _ => rfl⟩
    | 1, hd =>
      cases hd
      obtain ⟨fd, F⟩ := c.def_ 1 (d := h3) rfl
      exact ⟨_, fd, F, He.glo_ok X Gn (c.fact 1 (f := .glo "groups_of") rfl), FunD.bindsN F fun _ _ _ _ _ _ us hl => match us, hl with | [_], _ => rfl⟩
    | 2, hd =>
      cases hd
      obtain ⟨fd, F⟩ := c.def_ 2 (d := h4) rfl
      exact ⟨_, fd, F, He.glo_ok X Gn (c.fact 2 (f := .glo "pieces") rfl), FunD.bindsN F fun _ _ _ _ _ _ us hl => match us, hl with | [_], _ => rfl⟩
    | 3, hd =>
      cases hd
      obtain ⟨fd, F⟩ := c.def_ 3 (d := h5) rfl
      exact ⟨_, fd, F, He.glo_ok X Gn (c.fact 3 (f := .glo "need") rfl), FunD.bindsN F fun _ _ _ _ _ _ us hl => match us, hl with | [_], _ => rfl⟩
    | 4, hd =>
      cases hd
      obtain ⟨fd, F⟩ := c.def_ 4 (d := h7) rfl
      exact ⟨_, fd, F, He.glo_ok X Gn (c.fact 4 (f := .glo "_law_cell_at") rfl), FunD.bindsN F fun _ _ _ _ _ _ us hl => match us, hl with | [_, _], _ => rfl⟩
    | 5, hd =>
      cases hd
      obtain ⟨fd, F⟩ := c.def_ 5 (d := h8) rfl
      exact ⟨_, fd, F, He.glo_ok X Gn (c.fact 5 (f := .glo "_law_ends") rfl), FunD.bindsN F fun _ _ _ _ _ _ us hl => match us, hl with | [_, _], _ => rfl⟩
    | 6, hd =>
      cases hd
      obtain ⟨fd, F⟩ := c.def_ 6 (d := h9) rfl
      exact ⟨_, fd, F, He.glo_ok X Gn (c.fact 6 (f := .glo "_law_far") rfl), FunD.bindsN F fun _ _ _ _ _ _ us hl => match us, hl with | [_], _ => rfl⟩
    | 7, hd =>
      cases hd
      obtain ⟨fd, F⟩ := c.def_ 7 (d := h10) rfl
      exact ⟨_, fd, F, He.glo_ok X Gn (c.fact 7 (f := .glo "_law_work") rfl), FunD.bindsN F fun _ _ _ _ _ _ us hl => match us, hl with | [_], _ => rfl⟩
    | 8, hd =>
      cases hd
      obtain ⟨fd, F⟩ := c.def_ 8 (d := h11) rfl
      exact ⟨_, fd, F, He.glo_ok X Gn (c.fact 8 (f := .glo "_law_grown") rfl), FunD.bindsN F fun _ _ _ _ _ _ us hl => match us, hl with | [_], _ => rfl⟩
    | 9, hd =>
      cases hd
      obtain ⟨fd, F⟩ := c.def_ 9 (d := h12) rfl
      exact ⟨_, fd, F, He.glo_ok X Gn (c.fact 9 (f := .glo "_law_loose") rfl), FunD.bindsN F fun _ _ _ _ _ _ us hl => match us, hl with | [_, _, _], _ => rfl⟩
    | 10, hd =>
      cases hd
      obtain ⟨fd, F⟩ := c.def_ 10 (d := h13) rfl
      exact ⟨_, fd, F, He.glo_ok X Gn (c.fact 10 (f := .glo "_law_due") rfl), FunD.bindsN F fun _ _ _ _ _ _ us hl => match us, hl with | [_, _], _ => rfl⟩
    | 11, hd =>
      cases hd
      obtain ⟨fd, F⟩ := c.def_ 11 (d := h14) rfl
      exact ⟨_, fd, F, He.glo_ok X Gn (c.fact 11 (f := .glo "law") rfl), FunD.bindsN F fun _ _ _ _ _ _ us hl => match us, hl with | [_], _ => rfl⟩
    | n + 12, hd => cases hd
  · unfold blt at hx
    simp only [List.mem_cons, List.not_mem_nil, or_false] at hx
    rcases hx with rfl | rfl | rfl | rfl | rfl | rfl | rfl | rfl | rfl | rfl | rfl
    · exact He.free_ok X Gn (c.fact 12 (f := .free "abs") rfl)
    · exact He.free_ok X Gn (c.fact 13 (f := .free "bool") rfl)
    · exact He.free_ok X Gn (c.fact 14 (f := .free "int") rfl)
    · exact He.free_ok X Gn (c.fact 15 (f := .free "isinstance") rfl)
    · exact He.free_ok X Gn (c.fact 16 (f := .free "len") rfl)
    · exact He.free_ok X Gn (c.fact 17 (f := .free "list") rfl)
    · exact He.free_ok X Gn (c.fact 18 (f := .free "max") rfl)
    · exact He.free_ok X Gn (c.fact 19 (f := .free "min") rfl)
    · exact He.free_ok X Gn (c.fact 20 (f := .free "range") rfl)
    · exact He.free_ok X Gn (c.fact 21 (f := .free "sorted") rfl)
    · exact He.free_ok X Gn (c.fact 22 (f := .free "sum") rfl)
abbrev G (j : Nat) : Z.Env := lvl T (fun _ _ => false) j
end HD
open PySem PySem.W PySem.Calls PyProof.Rows
theorem law_from (H : ∀ ns : List Int, ns.length ≤ 63 → ∃ h', (HD.G 10).call 11 [.ro (ns.map Z.PV.int)] [] = Z.Res.ok (.bl true) h') : PySem.Challenge.rw_bothfaces_k34_need.Holds := by
  w_on; o_law
  refine HandSHeadRun.head_any (r := OpenLaw.row PySem.Challenge.rw_bothfaces_k34_need) (q := view (OpenLaw.row PySem.Challenge.rw_bothfaces_k34_need).prog [14]) (H := HD.hk) (ob := HD.ob) (M := 4000) (loose := HD.nms) (d := HandSHeadRun.topDef (OpenLaw.row PySem.Challenge.rw_bothfaces_k34_need).prog 14) (kwd := []) HD.ob_eq
    (by kernel_rfl) (fun s => by kernel_rfl) HD.run (by kernel_rfl) (by kernel_rfl) (by kernel_rfl) (by rfl) (by first | assumption | decide +kernel) (by decide +kernel) ⟨rfl, rfl, rfl, rfl, rfl, by decide +kernel⟩ ?hw ?hc
  case hw => w_witness2
  case hc =>
    refine L2.walk_ofE (l := PySem.Challenge.rw_bothfaces_k34_need) (n := 63) (k := 10) (x := "_law_script") (CX := Z.CXa) rfl (by decide) (by kernel_rfl) ⟨rfl, by decide, by decide⟩ ?F Z.CXa_no
    intro w mg fa h Y Gn hmg0
    obtain ⟨K, KX, c⟩ := Y
    have hmg : mg ("law" : PySem.Str) = some (.ref fa) := by
      have e : (HandSHeadRun.topDef (OpenLaw.row PySem.Challenge.rw_bothfaces_k34_need).prog 14).name = ("law" : PySem.Str) := by kernel_rfl
      rw [← e]
      exact hmg0
    exact Z.law_end (HD.txt KX Gn c) (fun d hd => List.all_eq_true.mp HD.chk d hd) (x := "_law_script") (i := 11) (d := HD.d_law) rfl rfl rfl rfl (fun f fd F s v => L2.FunD.bindsA (ps := ["_law_script"]) F (fun _ _ _ _ _ _ us hl => match us, hl with | [_], _ => rfl) s [v] rfl) KX hmg H
end

section
set_option Elab.async false
set_option linter.all false
set_option maxRecDepth 100000
namespace HD
open Z
theorem law_true (ns : List Int) : ∃ h', (HD.G 10).call 11 [.ro (ns.map Z.PV.int)] [] = Z.Res.ok (.bl true) h' := by
  have cell : ∀ k, SpecCell (G (k + 1)) 4 := fun k => spec_cell (d := d__law_cell_at) rfl rfl rfl rfl
  have ends : SpecEnds (G 8) 5 := spec_ends (k := 7) (d := d__law_ends) rfl rfl rfl rfl
  have far : SpecFar (G 8) 6 := spec_far (k := 7) (d := d__law_far) rfl rfl rfl rfl
  have work : SpecWork (G 9) 7 := spec_work (k := 8) (d := d__law_work) ends (cell 7) far rfl rfl rfl rfl
  have groups : SpecGroups (G 7) 1 := spec_groups (k := 6) (d := d_groups_of) rfl rfl rfl rfl
  have surp : SpecSurplus (G 8) 0 := spec_surplus (k := 7) (d := d_surplus) rfl rfl rfl rfl
  have piec : SpecPieces (G 8) 2 := spec_pieces (k := 7) (d := d_pieces) groups rfl rfl rfl rfl
  have need : SpecNeed (G 9) 3 := spec_need (k := 8) (d := d_need) piec surp rfl rfl rfl rfl
  have grown : SpecGrown (G 8) 8 := spec_grown (k := 7) (d := d__law_grown) rfl rfl rfl rfl
  have loose : SpecLoose (G 8) 9 := spec_loose (k := 7) (d := d__law_loose) rfl rfl rfl rfl
  have due : SpecDue (G 9) 10 := spec_due (k := 8) (d := d__law_due) grown loose rfl rfl rfl rfl
  have all : Ok ((G 10).call 11 [roN ns] []) fun v _ => v = .bl true := call_lvl (k := 9) (d := d_law) rfl rfl (law_ok work need due fun _ => rfl)
  obtain ⟨v, h', e, rfl⟩ := all.eq
  exact ⟨h', e⟩
end HD
theorem PySem.Challenge.cw_bothfaces_k34_need_holds : PySem.Challenge.rw_bothfaces_k34_need.Holds := by
  exact law_from fun ns _ => HD.law_true ns
end
