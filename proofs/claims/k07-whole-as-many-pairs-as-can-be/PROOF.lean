import PyProof.Rows.All
import Wide.All
import OpenK.AllK
import Wide.FinOn
import HandS.ForMost
import HandS.ForExc
import HandS.CallSlots
import HandS.ExcInit
import HandS.Defaults
import HandS.Conv
import HandS.SortInts
import HandS.More
import HandS.IsInst
import HandS.RaiseMore
import HandS.ExcOwn
import HandS.WordsExc
import HandS.ExcIs
import HandS.ExcField
import HandS.HeadHook4
import HandS.Head0
import HandS.Head1
import HandS.Head2
import HandS.HeadEnd
import HandS.Sort
import HandS.HeadHook3
import HandS.Text
import HandS.Iter
import HandS.Replace
import HandS.ReplaceLit
import HandS.Style
import HandS.TupAny
import HandS.DictTup
import KE.KDictDisplayH
import PySem.Challenge.RW_shellround_k07_whole_as_many_pairs_as_ca
set_option Elab.async false
set_option linter.all false
set_option maxRecDepth 100000
set_option maxHeartbeats 4000000
namespace DL
open PySem PySem.Spec PyProof.Rows L2

/-! ### data by value -/
inductive D where
  | non | bl (b : Bool) | int (i : Int) | str (s : Str)
  | lst (xs : List D) | tup (xs : List D) | ctup (xs : List D)
  | dK (kvs : List (Key × D)) | dT (kvs : List (List Key × D))
  | ins (c : Str) (fs : List (Str × D))
  | obj (n : Nat)

structure Wd where
  K : PySem.W.Frag
  mg : Str → Option Value

/-- a tuple of the written part -/
def KT (K : PySem.W.Frag) (a : Addr) (xs : List V) : Prop :=
  ∃ (o : Obj) (its : Array Value) (n : Nat), K.lookup a = some o ∧ o.cls = .type "tuple" ∧ o.data = .seq its n ∧ its.size ≤ sizeLine ∧ Vals xs its.toList

mutual
def Rep (W : Wd) (H : Hp) (S : Addr → Prop) (ob : Nat → Option Addr) : D → V → Prop
  | .non, v => v = .non
  | .bl b, v => v = .bl b
  | .int i, v => v = .int i
  | .str s, v => v = .str s
  | .lst xs, v => ∃ a vs, v = .ref a ∧ S a ∧ H a = some (.lst vs) ∧ Reps W H S ob xs vs
  | .tup xs, v => ∃ a vs, v = .ref a ∧ H a = some (.tup vs) ∧ Reps W H S ob xs vs
  | .ctup xs, v => ∃ a vs, v = .ref a ∧ KT W.K a vs ∧ Reps W H S ob xs vs
  | .dK kvs, v => ∃ a vs, v = .ref a ∧ S a ∧ Rd H a (.dK vs) ∧ RepK W H S ob kvs vs
  | .dT kvs, v => ∃ a vs, v = .ref a ∧ S a ∧ Rd H a (.dT vs) ∧ RepT W H S ob kvs vs
  | .ins c fs, v => ∃ a C dx fv, v = .ref a ∧ S a ∧ W.mg c = some (.ref C) ∧ H a = some (.ins C dx fv) ∧ RepF W H S ob fs fv
  | .obj n, v => ∃ a, ob n = some a ∧ v = .ref a
def Reps (W : Wd) (H : Hp) (S : Addr → Prop) (ob : Nat → Option Addr) : List D → List V → Prop
  | [], vs => vs = []
  | d :: ds, vs => ∃ v r, vs = v :: r ∧ Rep W H S ob d v ∧ Reps W H S ob ds r
def RepK (W : Wd) (H : Hp) (S : Addr → Prop) (ob : Nat → Option Addr) : List (Key × D) → List (Key × V) → Prop
  | [], vs => vs = []
  | (k, d) :: ds, vs => ∃ v r, vs = (k, v) :: r ∧ Rep W H S ob d v ∧ RepK W H S ob ds r
def RepT (W : Wd) (H : Hp) (S : Addr → Prop) (ob : Nat → Option Addr) : List (List Key × D) → List (List Key × V) → Prop
  | [], vs => vs = []
  | (k, d) :: ds, vs => ∃ v r, vs = (k, v) :: r ∧ Rep W H S ob d v ∧ RepT W H S ob ds r
def RepF (W : Wd) (H : Hp) (S : Addr → Prop) (ob : Nat → Option Addr) : List (Str × D) → List (Str × V) → Prop
  | [], vs => vs = []
  | (k, d) :: ds, vs => ∃ v r, vs = (k, v) :: r ∧ Rep W H S ob d v ∧ RepF W H S ob ds r
end

/-- what a representation leans on is kept -/
structure Kp (H H' : Hp) (S S' : Addr → Prop) (ob ob' : Nat → Option Addr) : Prop where
  s : ∀ a u, S a → H a = some u → S' a
  k : ∀ a u, S a → H a = some u → H' a = some u
  t : ∀ a xs, H a = some (.tup xs) → H' a = some (.tup xs)
  o : ∀ n a, ob n = some a → ob' n = some a
theorem Kp.rd {H H' : Hp} {S S' : Addr → Prop} {ob ob' : Nat → Option Addr} (k : Kp H H' S S' ob ob') {a : Addr} {u : HO} (s : S a) (h : Rd H a u) : S' a ∧ Rd H' a u := by
  rcases h with h | ⟨o, h⟩
  · exact ⟨k.s a _ s h, .inl (k.k a _ s h)⟩
  · exact ⟨k.s a _ s h, .inr ⟨o, k.k a _ s h⟩⟩
mutual
theorem Rep.mono {W : Wd} {H H' : Hp} {S S' : Addr → Prop} {ob ob' : Nat → Option Addr} (k : Kp H H' S S' ob ob') : ∀ (d : D) (v : V), Rep W H S ob d v → Rep W H' S' ob' d v
  | .non, v, h => h
  | .bl b, v, h => h
  | .int i, v, h => h
  | .str s, v, h => h
  | .lst xs, v, h => by
    obtain ⟨a, vs, e, s, r, q⟩ := h
    exact ⟨a, vs, e, k.s a _ s r, k.k a _ s r, Reps.mono k xs vs q⟩
  | .tup xs, v, h => by
    obtain ⟨a, vs, e, r, q⟩ := h
    exact ⟨a, vs, e, k.t _ _ r, Reps.mono k xs vs q⟩
  | .ctup xs, v, h => by
    obtain ⟨a, vs, e, r, q⟩ := h
    exact ⟨a, vs, e, r, Reps.mono k xs vs q⟩
  | .dK kvs, v, h => by
    obtain ⟨a, vs, e, s, r, q⟩ := h
    exact ⟨a, vs, e, (k.rd s r).1, (k.rd s r).2, RepK.mono k kvs vs q⟩
  | .dT kvs, v, h => by
    obtain ⟨a, vs, e, s, r, q⟩ := h
    exact ⟨a, vs, e, (k.rd s r).1, (k.rd s r).2, RepT.mono k kvs vs q⟩
  | .ins c fs, v, h => by
    obtain ⟨a, C, dx, fv, e, s, m, r, q⟩ := h
    exact ⟨a, C, dx, fv, e, k.s a _ s r, m, k.k a _ s r, RepF.mono k fs fv q⟩
  | .obj n, v, h => by
    obtain ⟨a, e, q⟩ := h
    exact ⟨a, k.o n a e, q⟩
theorem Reps.mono {W : Wd} {H H' : Hp} {S S' : Addr → Prop} {ob ob' : Nat → Option Addr} (k : Kp H H' S S' ob ob') : ∀ (ds : List D) (vs : List V), Reps W H S ob ds vs → Reps W H' S' ob' ds vs
  | [], _, h => h
  | d :: ds, _, h => by
    obtain ⟨v, r, e, p, q⟩ := h
    exact ⟨v, r, e, Rep.mono k d v p, Reps.mono k ds r q⟩
theorem RepK.mono {W : Wd} {H H' : Hp} {S S' : Addr → Prop} {ob ob' : Nat → Option Addr} (k : Kp H H' S S' ob ob') : ∀ (ds : List (Key × D)) (vs : List (Key × V)), RepK W H S ob ds vs → RepK W H' S' ob' ds vs
  | [], _, h => h
  | (x, d) :: ds, _, h => by
    obtain ⟨v, r, e, p, q⟩ := h
    exact ⟨v, r, e, Rep.mono k d v p, RepK.mono k ds r q⟩
theorem RepT.mono {W : Wd} {H H' : Hp} {S S' : Addr → Prop} {ob ob' : Nat → Option Addr} (k : Kp H H' S S' ob ob') : ∀ (ds : List (List Key × D)) (vs : List (List Key × V)), RepT W H S ob ds vs → RepT W H' S' ob' ds vs
  | [], _, h => h
  | (x, d) :: ds, _, h => by
    obtain ⟨v, r, e, p, q⟩ := h
    exact ⟨v, r, e, Rep.mono k d v p, RepT.mono k ds r q⟩
theorem RepF.mono {W : Wd} {H H' : Hp} {S S' : Addr → Prop} {ob ob' : Nat → Option Addr} (k : Kp H H' S S' ob ob') : ∀ (ds : List (Str × D)) (vs : List (Str × V)), RepF W H S ob ds vs → RepF W H' S' ob' ds vs
  | [], _, h => h
  | (x, d) :: ds, _, h => by
    obtain ⟨v, r, e, p, q⟩ := h
    exact ⟨v, r, e, Rep.mono k d v p, RepF.mono k ds r q⟩
end
theorem Kp.same {H H' : Hp} {S : Addr → Prop} {ob : Nat → Option Addr} (s : Same H H') : Kp H H' S S ob ob where
  s := fun _ _ h _ => h
  k := fun a u _ h => s a u h
  t := fun a xs h => s a _ h
  o := fun _ _ h => h
theorem Kp.sub {H : Hp} {S S' : Addr → Prop} {ob : Nat → Option Addr} (s : ∀ a u, S a → H a = some u → S' a) : Kp H H S S' ob ob where
  s := s
  k := fun _ _ _ h => h
  t := fun _ _ h => h
  o := fun _ _ h => h

/-! ### lists of representations -/
section
variable {W : Wd} {H : Hp} {S : Addr → Prop} {ob : Nat → Option Addr}
theorem Reps.len : ∀ {ds : List D} {vs : List V}, Reps W H S ob ds vs → vs.length = ds.length
  | [], _, h => by rw [show _ = [] from h]; rfl
  | d :: ds, _, h => by
    obtain ⟨v, r, e, p, q⟩ := h
    rw [e, List.length_cons, List.length_cons, Reps.len q]
theorem Reps.get : ∀ {ds : List D} {vs : List V} {i : Nat} {d : D}, Reps W H S ob ds vs → ds[i]? = some d → ∃ v, vs[i]? = some v ∧ Rep W H S ob d v
  | [], _, i, d, _, e => by simp at e
  | x :: ds, _, i, d, h, e => by
    obtain ⟨v, r, rfl, p, q⟩ := h
    cases i with
    | zero =>
      have e' : x = d := by simpa using e
      subst e'
      exact ⟨v, rfl, p⟩
    | succ i =>
      obtain ⟨v', e1, e2⟩ := Reps.get q (i := i) (d := d) (by simpa using e)
      exact ⟨v', by simpa using e1, e2⟩
theorem Reps.get' : ∀ {ds : List D} {vs : List V} {i : Nat} {v : V}, Reps W H S ob ds vs → vs[i]? = some v → ∃ d, ds[i]? = some d ∧ Rep W H S ob d v
  | [], _, i, v, h, e => by rw [show _ = [] from h] at e; simp at e
  | x :: ds, _, i, v, h, e => by
    obtain ⟨w, r, rfl, p, q⟩ := h
    cases i with
    | zero =>
      have e' : w = v := by simpa using e
      subst e'
      exact ⟨x, rfl, p⟩
    | succ i =>
      obtain ⟨d, e1, e2⟩ := Reps.get' q (i := i) (v := v) (by simpa using e)
      exact ⟨d, by simpa using e1, e2⟩
theorem Reps.app : ∀ {ds es : List D} {vs ws : List V}, Reps W H S ob ds vs → Reps W H S ob es ws → Reps W H S ob (ds ++ es) (vs ++ ws)
  | [], es, _, ws, h, h' => by rw [show _ = [] from h]; exact h'
  | d :: ds, es, _, ws, h, h' => by
    obtain ⟨v, r, rfl, p, q⟩ := h
    exact ⟨v, r ++ ws, rfl, p, Reps.app q h'⟩
theorem Reps.one {d : D} {v : V} (h : Rep W H S ob d v) : Reps W H S ob [d] [v] := ⟨v, [], rfl, h, rfl⟩
theorem Reps.nil : Reps W H S ob [] [] := rfl
theorem Reps.cons {d : D} {ds : List D} {v : V} {vs : List V} (h : Rep W H S ob d v) (t : Reps W H S ob ds vs) : Reps W H S ob (d :: ds) (v :: vs) := ⟨v, vs, rfl, h, t⟩
theorem Reps.take : ∀ {ds : List D} {vs : List V} (n : Nat), Reps W H S ob ds vs → Reps W H S ob (ds.take n) (vs.take n)
  | [], _, n, h => by rw [show _ = [] from h]; simp; exact Reps.nil
  | d :: ds, _, 0, h => Reps.nil
  | d :: ds, _, n + 1, h => by
    obtain ⟨v, r, rfl, p, q⟩ := h
    exact ⟨v, _, rfl, p, Reps.take n q⟩
theorem Reps.drop : ∀ {ds : List D} {vs : List V} (n : Nat), Reps W H S ob ds vs → Reps W H S ob (ds.drop n) (vs.drop n)
  | [], _, n, h => by rw [show _ = [] from h]; simp; exact Reps.nil
  | d :: ds, _, 0, h => h
  | d :: ds, _, n + 1, h => by
    obtain ⟨v, r, rfl, p, q⟩ := h
    exact Reps.drop n q
theorem Reps.rev : ∀ {ds : List D} {vs : List V}, Reps W H S ob ds vs → Reps W H S ob ds.reverse vs.reverse
  | [], _, h => by rw [show _ = [] from h]; exact Reps.nil
  | d :: ds, _, h => by
    obtain ⟨v, r, rfl, p, q⟩ := h
    rw [List.reverse_cons, List.reverse_cons]
    exact Reps.app (Reps.rev q) (Reps.one p)
theorem Reps.ints : ∀ {ns : List Int} {vs : List V}, Reps W H S ob (ns.map D.int) vs → vs = ns.map V.int
  | [], _, h => h
  | n :: ns, _, h => by
    obtain ⟨v, r, rfl, p, q⟩ := h
    rw [show v = .int n from p, Reps.ints q]; rfl
theorem Reps.ofInts : ∀ (ns : List Int), Reps W H S ob (ns.map D.int) (ns.map V.int)
  | [] => rfl
  | n :: ns => ⟨_, _, rfl, rfl, Reps.ofInts ns⟩
theorem Reps.strs : ∀ {ns : List Str} {vs : List V}, Reps W H S ob (ns.map D.str) vs → vs = ns.map V.str
  | [], _, h => h
  | n :: ns, _, h => by
    obtain ⟨v, r, rfl, p, q⟩ := h
    rw [show v = .str n from p, Reps.strs q]; rfl
theorem Reps.ofStrs : ∀ (ns : List Str), Reps W H S ob (ns.map D.str) (ns.map V.str)
  | [] => rfl
  | n :: ns => ⟨_, _, rfl, rfl, Reps.ofStrs ns⟩
theorem Reps.bls : ∀ {ns : List Bool} {vs : List V}, Reps W H S ob (ns.map D.bl) vs → vs = ns.map V.bl
  | [], _, h => h
  | n :: ns, _, h => by
    obtain ⟨v, r, rfl, p, q⟩ := h
    rw [show v = .bl n from p, Reps.bls q]; rfl
/-- a list of D whose items are all ints, strs, bools, by a partial function -/
def D.ints? : List D → Option (List Int)
  | [] => some []
  | .int i :: r => (D.ints? r).map (i :: ·)
  | _ :: _ => none
theorem D.ints_some : ∀ {ds : List D} {ns : List Int}, D.ints? ds = some ns → ds = ns.map D.int
  | [], ns, h => by
    have e : [] = ns := Option.some.inj h
    subst e; rfl
  | .int i :: r, ns, h => by
    have h : (D.ints? r).map (i :: ·) = some ns := h
    cases e : D.ints? r with
    | none => rw [e] at h; cases h
    | some q =>
      rw [e] at h
      have e2 : i :: q = ns := Option.some.inj h
      rw [← e2, D.ints_some e]; rfl
  | .non :: _, _, h | .bl _ :: _, _, h | .str _ :: _, _, h | .lst _ :: _, _, h | .tup _ :: _, _, h | .ctup _ :: _, _, h | .dK _ :: _, _, h | .dT _ :: _, _, h | .ins _ _ :: _, _, h | .obj _ :: _, _, h => by cases h
@[simp] theorem D.ints_map : ∀ (ns : List Int), D.ints? (ns.map D.int) = some ns
  | [] => rfl
  | n :: ns => by show (D.ints? (ns.map D.int)).map (n :: ·) = _; rw [D.ints_map ns]; rfl
def D.strs? : List D → Option (List Str)
  | [] => some []
  | .str i :: r => (D.strs? r).map (i :: ·)
  | _ :: _ => none
theorem D.strs_some : ∀ {ds : List D} {ns : List Str}, D.strs? ds = some ns → ds = ns.map D.str
  | [], ns, h => by
    have e : [] = ns := Option.some.inj h
    subst e; rfl
  | .str i :: r, ns, h => by
    have h : (D.strs? r).map (i :: ·) = some ns := h
    cases e : D.strs? r with
    | none => rw [e] at h; cases h
    | some q =>
      rw [e] at h
      have e2 : i :: q = ns := Option.some.inj h
      rw [← e2, D.strs_some e]; rfl
  | .non :: _, _, h | .bl _ :: _, _, h | .int _ :: _, _, h | .lst _ :: _, _, h | .tup _ :: _, _, h | .ctup _ :: _, _, h | .dK _ :: _, _, h | .dT _ :: _, _, h | .ins _ _ :: _, _, h | .obj _ :: _, _, h => by cases h
@[simp] theorem D.strs_map : ∀ (ns : List Str), D.strs? (ns.map D.str) = some ns
  | [] => rfl
  | n :: ns => by show (D.strs? (ns.map D.str)).map (n :: ·) = _; rw [D.strs_map ns]; rfl
def D.bls? : List D → Option (List Bool)
  | [] => some []
  | .bl i :: r => (D.bls? r).map (i :: ·)
  | _ :: _ => none
theorem D.bls_some : ∀ {ds : List D} {ns : List Bool}, D.bls? ds = some ns → ds = ns.map D.bl
  | [], ns, h => by
    have e : [] = ns := Option.some.inj h
    subst e; rfl
  | .bl i :: r, ns, h => by
    have h : (D.bls? r).map (i :: ·) = some ns := h
    cases e : D.bls? r with
    | none => rw [e] at h; cases h
    | some q =>
      rw [e] at h
      have e2 : i :: q = ns := Option.some.inj h
      rw [← e2, D.bls_some e]; rfl
  | .non :: _, _, h | .str _ :: _, _, h | .int _ :: _, _, h | .lst _ :: _, _, h | .tup _ :: _, _, h | .ctup _ :: _, _, h | .dK _ :: _, _, h | .dT _ :: _, _, h | .ins _ _ :: _, _, h | .obj _ :: _, _, h => by cases h
@[simp] theorem D.bls_map : ∀ (ns : List Bool), D.bls? (ns.map D.bl) = some ns
  | [] => rfl
  | n :: ns => by show (D.bls? (ns.map D.bl)).map (n :: ·) = _; rw [D.bls_map ns]; rfl
end

/-! ### places, what owns what -/
inductive Pl where
  | sl (i : Nat) | fd (n : Nat) (f : Str) | ob (n : Nat) | fg (a : Addr)
  deriving DecidableEq
abbrev Lc := Pl → Option Addr
def Fr (L : Lc) (B : List Nat) : Addr → Prop := fun a => ∀ p, L p = some a → ∃ i, i ∈ B ∧ p = .sl i
def obs (L : Lc) : Nat → Option Addr := fun n => L (.ob n)
theorem Fr.mono {L : Lc} {B B' : List Nat} (h : ∀ i ∈ B, i ∈ B') {a : Addr} (s : Fr L B a) : Fr L B' a := fun p e => by
  obtain ⟨i, m, q⟩ := s p e
  exact ⟨i, h i m, q⟩
inductive Sl where
  | no | val (d : D) | own (d : D)
structure Ob where
  cls : Str
  fs : List (Str × Sl)
abbrev Store := List Ob
abbrev Env' := List Sl
/-- what may be owned -/
def isC : HO → Bool
  | .lst _ => true
  | .dK _ => true
  | .dT _ => true
  | .ins _ _ _ => true
  | .frz _ u => isC u
  | _ => false
def AtE (ex : Bool) (H : Hp) (a : Addr) (u : HO) : Prop := (ex = true → H a = some u) ∧ Rd H a u
theorem AtE.rd {ex : Bool} {H : Hp} {a : Addr} {u : HO} (h : AtE ex H a u) : Rd H a u := h.2
theorem AtE.of {H : Hp} {a : Addr} {u : HO} {ex : Bool} (h : H a = some u) : AtE ex H a u := ⟨fun _ => h, .inl h⟩
def RepO (W : Wd) (H : Hp) (S : Addr → Prop) (ob : Nat → Option Addr) (ex : Bool) : D → Addr → Prop
  | .lst xs, a => ∃ vs, H a = some (.lst vs) ∧ Reps W H S ob xs vs
  | .dK kvs, a => ∃ vs, AtE ex H a (.dK vs) ∧ RepK W H S ob kvs vs
  | .dT kvs, a => ∃ vs, AtE ex H a (.dT vs) ∧ RepT W H S ob kvs vs
  | _, _ => False
def SltR (W : Wd) (H : Hp) (L : Lc) (p : Pl) (ex : Bool) : Sl → Option V → Prop
  | .no, _ => True
  | .val d, v => ∃ x, v = some x ∧ Rep W H (Fr L []) (obs L) d x
  | .own d, v => ∃ a, v = some (.ref a) ∧ L p = some a ∧ RepO W H (Fr L []) (obs L) ex d a
def FsR (W : Wd) (H : Hp) (L : Lc) (n : Nat) (ex : Bool) : List (Str × Sl) → List (Str × V) → Prop
  | [], vs => vs = []
  | (f, s) :: r, vs => ∃ v t, vs = (f, v) :: t ∧ SltR W H L (.fd n f) ex s (some v) ∧ FsR W H L n ex r t
structure ObR (W : Wd) (H : Hp) (L : Lc) (ex : Bool) (n : Nat) (o : Ob) : Prop where
  at_ : ∃ p C dx fs, L (.ob n) = some p ∧ W.mg o.cls = some (.ref C) ∧ H p = some (.ins C dx fs) ∧ FsR W H L n ex o.fs fs
def Mt (n0 : Nat) : Pl → Prop
  | .sl _ => True
  | .fd n _ => n0 ≤ n
  | .ob n => n0 ≤ n
  | .fg _ => False
def MS (n0 : Nat) : Pl → Prop
  | .sl _ => False
  | .fd n _ => n0 ≤ n
  | .ob n => n0 ≤ n
  | .fg _ => False
theorem MS.mt {n0 : Nat} {p : Pl} (h : MS n0 p) : Mt n0 p := by cases p <;> first | exact h | exact h.elim
structure Aft (n0 : Nat) (L : Lc) (H : Hp) (L' : Lc) (H' : Hp) : Prop where
  keep : ∀ a u, H a = some u → (∀ p, L p = some a → ¬ Mt n0 p) → H' a = some u
  newS : ∀ i a, L' (.sl i) = some a → (∃ j, L (.sl j) = some a) ∨ H a = none
  newM : ∀ p a, MS n0 p → L' p = some a → (∃ q, MS n0 q ∧ L q = some a) ∨ H a = none
  prot : ∀ p, ¬ Mt n0 p → L' p = L p
  obk : ∀ n a, L (.ob n) = some a → L' (.ob n) = some a
  there : ∀ a u, H a = some u → ∃ v, H' a = some v
structure Stp (n0 : Nat) (L : Lc) (H : Hp) (L' : Lc) (H' : Hp) : Prop where
  keep : ∀ a u, H a = some u → (∀ p, L p = some a → ¬ MS n0 p) → H' a = some u
  newM : ∀ p a, MS n0 p → L' p = some a → (∃ q, MS n0 q ∧ L q = some a) ∨ H a = none
  prot : ∀ p, ¬ MS n0 p → L' p = L p
  obk : ∀ n a, L (.ob n) = some a → L' (.ob n) = some a
  there : ∀ a u, H a = some u → ∃ v, H' a = some v
theorem Mt.cases {n0 : Nat} {p : Pl} (h : Mt n0 p) : (∃ i, p = .sl i) ∨ MS n0 p := by
  cases p with
  | sl i => exact .inl ⟨i, rfl⟩
  | fd n f => exact .inr h
  | ob n => exact .inr h
  | fg a => exact h.elim
theorem Aft.new {n0 : Nat} {L L' : Lc} {H H' : Hp} (x : Aft n0 L H L' H') (p : Pl) (a : Addr) (m : Mt n0 p) (e : L' p = some a) : (∃ q, Mt n0 q ∧ L q = some a) ∨ H a = none := by
  rcases m.cases with ⟨i, rfl⟩ | m
  · rcases x.newS i a e with ⟨j, q⟩ | z
    · exact .inl ⟨.sl j, trivial, q⟩
    · exact .inr z
  · rcases x.newM p a m e with ⟨q, mq, eq⟩ | z
    · exact .inl ⟨q, mq.mt, eq⟩
    · exact .inr z
theorem Aft.fresh {n0 : Nat} {L0 L : Lc} {H0 H : Hp} (x : Aft n0 L0 H0 L H) {a : Addr} (h : H a = none) : H0 a = none := by
  cases e : H0 a with
  | none => rfl
  | some u =>
    obtain ⟨v, q⟩ := x.there a u e
    rw [h] at q; cases q
theorem Aft.refl {n0 : Nat} {L : Lc} {H : Hp} : Aft n0 L H L H := ⟨fun _ _ h _ => h, fun i a h => .inl ⟨i, h⟩, fun p a m h => .inl ⟨p, m, h⟩, fun _ _ => rfl, fun _ _ h => h, fun a u h => ⟨u, h⟩⟩
theorem Stp.same {n0 : Nat} {L : Lc} {H H' : Hp} (s : Same H H') : Stp n0 L H L H' := ⟨fun a u h _ => s a u h, fun p a m h => .inl ⟨p, m, h⟩, fun _ _ => rfl, fun _ _ h => h, fun a u h => ⟨u, s a u h⟩⟩
theorem Aft.step {n0 : Nat} {L0 L L' : Lc} {H0 H H' : Hp} (x : Aft n0 L0 H0 L H) (y : Stp n0 L H L' H') : Aft n0 L0 H0 L' H' where
  keep := fun a u h hp => by
    refine y.keep a u (x.keep a u h hp) fun p e m => ?_
    rcases x.newM p a m e with ⟨q, mq, eq⟩ | z
    · exact hp q eq mq.mt
    · rw [h] at z; cases z
  newS := fun i a e => by
    rw [y.prot (.sl i) (fun z => z)] at e
    exact x.newS i a e
  newM := fun p a m e => by
    rcases y.newM p a m e with ⟨q, mq, eq⟩ | z
    · exact x.newM q a mq eq
    · exact .inr (x.fresh z)
  prot := fun p m => (y.prot p fun z => m z.mt).trans (x.prot p m)
  obk := fun n a h => y.obk n a (x.obk n a h)
  there := fun a u h => by
    obtain ⟨v, q⟩ := x.there a u h
    exact y.there a v q
theorem Aft.trans {n0 : Nat} {L0 L L' : Lc} {H0 H H' : Hp} (x : Aft n0 L0 H0 L H) (y : Aft n0 L H L' H') : Aft n0 L0 H0 L' H' where
  keep := fun a u h hp => by
    refine y.keep a u (x.keep a u h hp) fun p e m => ?_
    rcases x.new p a m e with ⟨q, mq, eq⟩ | z
    · exact hp q eq mq
    · rw [h] at z; cases z
  newS := fun i a e => by
    rcases y.newS i a e with ⟨j, q⟩ | z
    · exact x.newS j a q
    · exact .inr (x.fresh z)
  newM := fun p a m e => by
    rcases y.newM p a m e with ⟨q, mq, eq⟩ | z
    · exact x.newM q a mq eq
    · exact .inr (x.fresh z)
  prot := fun p m => (y.prot p m).trans (x.prot p m)
  obk := fun n a h => y.obk n a (x.obk n a h)
  there := fun a u h => by
    obtain ⟨v, q⟩ := x.there a u h
    exact y.there a v q

/-- the frame: how many objects are not to be changed; where it began -/
structure Fm where
  n0 : Nat
  L0 : Lc
  H0 : Hp
structure Rel (W : Wd) (F : Fm) (ρ : Env') (ω : Store) (L : Lc) (σ : L2.St) (H : Hp) : Prop where
  inj : ∀ p q a, L p = some a → L q = some a → p = q
  alive : ∀ p a, L p = some a → ∃ u, H a = some u ∧ isC u = true
  aft : Aft F.n0 F.L0 F.H0 L H
  fgs : ∀ a b, L (.fg a) = some b → b = a
  len : σ.length = ρ.length
  sl : ∀ i s, ρ[i]? = some s → SltR W H L (.sl i) true s (σ[i]?.join)
  st : ∀ n o, ω[n]? = some o → ObR W H L (decide (F.n0 ≤ n)) n o
  dom : ∀ n, ω.length ≤ n → L (.ob n) = none ∧ ∀ f, L (.fd n f) = none

section
variable {W : Wd} {H H' : Hp} {L L' : Lc} {F : Fm} {ρ : Env'} {ω : Store} {σ : L2.St}
theorem AtE.same {ex : Bool} {a : Addr} {u : HO} (s : Same H H') (h : AtE ex H a u) : AtE ex H' a u := by
  refine ⟨fun e => s a u (h.1 e), ?_⟩
  rcases h.2 with h | ⟨o, h⟩
  · exact .inl (s a _ h)
  · exact .inr ⟨o, s a _ h⟩
theorem RepO.same {S : Addr → Prop} {ob : Nat → Option Addr} {ex : Bool} (s : Same H H') : ∀ (d : D) (a : Addr), RepO W H S ob ex d a → RepO W H' S ob ex d a
  | .lst xs, a, ⟨vs, h, q⟩ => ⟨vs, s _ _ h, Reps.mono (Kp.same s) xs vs q⟩
  | .dK xs, a, ⟨vs, h, q⟩ => ⟨vs, h.same s, RepK.mono (Kp.same s) xs vs q⟩
  | .dT xs, a, ⟨vs, h, q⟩ => ⟨vs, h.same s, RepT.mono (Kp.same s) xs vs q⟩
  | .non, _, h | .bl _, _, h | .int _, _, h | .str _, _, h | .tup _, _, h | .ctup _, _, h | .ins _ _, _, h | .obj _, _, h => h.elim
theorem SltR.same {p : Pl} {ex : Bool} (s : Same H H') : ∀ (x : Sl) (v : Option V), SltR W H L p ex x v → SltR W H' L p ex x v
  | .no, _, _ => trivial
  | .val d, v, ⟨x, e, h⟩ => ⟨x, e, Rep.mono (Kp.same s) d x h⟩
  | .own d, v, ⟨a, e, l, h⟩ => ⟨a, e, l, RepO.same s d a h⟩
theorem FsR.same {n : Nat} {ex : Bool} (s : Same H H') : ∀ (fs : List (Str × Sl)) (vs : List (Str × V)), FsR W H L n ex fs vs → FsR W H' L n ex fs vs
  | [], _, h => h
  | (f, x) :: r, _, ⟨v, t, e, h, q⟩ => ⟨v, t, e, SltR.same s x _ h, FsR.same s r t q⟩
theorem ObR.same {n : Nat} {ex : Bool} {o : Ob} (s : Same H H') (h : ObR W H L ex n o) : ObR W H' L ex n o := by
  obtain ⟨p, C, dx, fs, e1, e2, e3, q⟩ := h.at_
  exact ⟨p, C, dx, fs, e1, e2, s _ _ e3, FsR.same s _ _ q⟩
theorem Rel.same (r : Rel W F ρ ω L σ H) (s : Same H H') : Rel W F ρ ω L σ H' :=
  ⟨r.inj, fun p a e => by
    obtain ⟨u, h, c⟩ := r.alive p a e
    exact ⟨u, s a u h, c⟩, r.aft.step (Stp.same s), r.fgs, r.len, fun i x e => SltR.same s x _ (r.sl i x e), fun n o e => (r.st n o e).same s, r.dom⟩
end

/-! ### results -/
structure Er where
  cls : Str
  word : Str
inductive Res (α : Type) where
  | stuck | ok (a : α) | err (e : Er)
def Res.bind {α β : Type} : Res α → (α → Res β) → Res β
  | .stuck, _ => .stuck
  | .ok a, f => f a
  | .err e, _ => .err e
/-- an exception of ours -/
structure Exc (W : Wd) (H : Hp) (e : Er) (cls : Value) (dd : Option Addr) : Prop where
  at_ : ∃ C d, W.mg e.cls = some (.ref C) ∧ cls = .ref C ∧ dd = some d ∧ H d = some (.xd [("word", .str e.word)])
abbrev M := Env' → Store → Res D
def Leaf (W : Wd) (Wx : WX) (L : Lc) (B : List Nat) (σ : L2.St) (H : Hp) (Q : VK) : Res D → Prop
  | .stuck => False
  | .ok d => ∀ v H', Same H H' → Rep W H' (Fr L B) (obs L) d v → Q v H'
  | .err e => ∀ cls dd H', Same H H' → Exc W H' e cls dd → Wx cls dd σ H'
def tP (W : Wd) (Wx : WX) (B : List Nat) (m : M) : TE := fun σ H Q => ∃ F ρ ω L, Rel W F ρ ω L σ H ∧ Leaf W Wx L B σ H Q (m ρ ω)
/-- a test -/
def LeafB (W : Wd) (Wx : WX) (L : Lc) (σ : L2.St) (H : Hp) (Q : Bool → Hp → Prop) : Res Bool → Prop
  | .stuck => False
  | .ok b => ∀ H', Same H H' → Q b H'
  | .err e => ∀ cls dd H', Same H H' → Exc W H' e cls dd → Wx cls dd σ H'
def tT (W : Wd) (Wx : WX) (m : Env' → Store → Res Bool) : TT := fun σ H Q => ∃ F ρ ω L, Rel W F ρ ω L σ H ∧ LeafB W Wx L σ H Q (m ρ ω)
abbrev wd (X : Cx) : Wd := ⟨X.K, X.mg⟩
structure DP (X : Cx) (Wx : WX) (B : List Nat) (e : Expr) (m : M) : Prop where
  pe : PE X e (tP (wd X) Wx B m)
structure DB (X : Cx) (Wx : WX) (e : Expr) (m : Env' → Store → Res Bool) : Prop where
  pt : PT X e (tT (wd X) Wx m)
theorem PE.weak {X : Cx} {e : Expr} {t t' : TE} (h : PE X e t) (w : ∀ σ H Q, t' σ H Q → t σ H Q) : PE X e t' := ⟨fun pins s σ H Q I q => h.run pins s σ H Q I (w σ H Q q)⟩
theorem PT.weak {X : Cx} {e : Expr} {t t' : TT} (h : PT X e t) (w : ∀ σ H Q, t' σ H Q → t σ H Q) : PT X e t' := ⟨fun pins s σ H Q I q => h.run pins s σ H Q I (w σ H Q q)⟩
theorem PS.weak {X : Cx} {e : Stmt} {t t' : TS} (h : PS X e t) (w : ∀ D σ H, t' D σ H → t D σ H) : PS X e t' := ⟨fun pins s σ H D I q => h.run pins s σ H D I (w D σ H q)⟩
theorem PSs.weak {X : Cx} {e : List Stmt} {t t' : TS} (h : PSs X e t) (w : ∀ D σ H, t' D σ H → t D σ H) : PSs X e t' := ⟨fun pins s σ H D I q => h.run pins s σ H D I (w D σ H q)⟩
theorem Leaf.to {W : Wd} {Wx : WX} {L : Lc} {B B' : List Nat} {σ : L2.St} {H H' : Hp} {Q Q' : VK} {r : Res D} (h : Leaf W Wx L B σ H Q r) (s : Same H H') (hB : ∀ i ∈ B', i ∈ B) (hQ : ∀ v H, Q v H → Q' v H) : Leaf W Wx L B' σ H' Q' r := by
  cases r with
  | stuck => exact h
  | ok d => exact fun v H2 s2 r => hQ _ _ (h v H2 (s.trans s2) (Rep.mono (Kp.sub fun a u f _ => Fr.mono hB f) d v r))
  | err e => exact fun c d H2 s2 r => h c d H2 (s.trans s2) r
theorem LeafB.to {W : Wd} {Wx : WX} {L : Lc} {σ : L2.St} {H H' : Hp} {Q Q' : Bool → Hp → Prop} {r : Res Bool} (h : LeafB W Wx L σ H Q r) (s : Same H H') (hQ : ∀ v H, Q v H → Q' v H) : LeafB W Wx L σ H' Q' r := by
  cases r with
  | stuck => exact h
  | ok d => exact fun H2 s2 => hQ _ _ (h H2 (s.trans s2))
  | err e => exact fun c d H2 s2 r => h c d H2 (s.trans s2) r
end DL
namespace DL
open PySem PySem.Spec PyProof.Rows L2

def Al (L : Lc) (H : Hp) : Prop := ∀ p a, L p = some a → ∃ u, H a = some u
theorem Rel.al {W : Wd} {F : Fm} {ρ : Env'} {ω : Store} {L : Lc} {σ : L2.St} {H : Hp} (r : Rel W F ρ ω L σ H) : Al L H := fun p a e => by
  obtain ⟨u, h, _⟩ := r.alive p a e
  exact ⟨u, h⟩
theorem Al.fr {L : Lc} {H : Hp} (h : Al L H) {a : Addr} (n : H a = none) (B : List Nat) : Fr L B a := fun p e => by
  obtain ⟨u, q⟩ := h p a e
  rw [n] at q; cases q
theorem Al.same {L : Lc} {H H' : Hp} (h : Al L H) (s : Same H H') : Al L H' := fun p a e => by
  obtain ⟨u, q⟩ := h p a e
  exact ⟨u, s a u q⟩
theorem same_upd {H : Hp} {p : Addr} {o : HO} (n : H p = none) : Same H (upd H p o) := fun b u e => by
  rw [upd_ne (ne_of_none e n)]; exact e
theorem Rep.same {W : Wd} {H H' : Hp} {S : Addr → Prop} {ob : Nat → Option Addr} {d : D} {v : V} (h : Rep W H S ob d v) (s : Same H H') : Rep W H' S ob d v := Rep.mono (Kp.same s) d v h
theorem Reps.same {W : Wd} {H H' : Hp} {S : Addr → Prop} {ob : Nat → Option Addr} {d : List D} {v : List V} (h : Reps W H S ob d v) (s : Same H H') : Reps W H' S ob d v := Reps.mono (Kp.same s) d v h
theorem Rep.wide {W : Wd} {H : Hp} {L : Lc} {B B' : List Nat} {ob : Nat → Option Addr} {d : D} {v : V} (h : Rep W H (Fr L B) ob d v) (s : ∀ i ∈ B, i ∈ B') : Rep W H (Fr L B') ob d v := Rep.mono (Kp.sub fun a u f _ => Fr.mono s f) d v h
theorem Reps.wide {W : Wd} {H : Hp} {L : Lc} {B B' : List Nat} {ob : Nat → Option Addr} {d : List D} {v : List V} (h : Reps W H (Fr L B) ob d v) (s : ∀ i ∈ B, i ∈ B') : Reps W H (Fr L B') ob d v := Reps.mono (Kp.sub fun a u f _ => Fr.mono s f) d v h
theorem RepK.wide {W : Wd} {H : Hp} {L : Lc} {B B' : List Nat} {ob : Nat → Option Addr} {d : List (Key × D)} {v : List (Key × V)} (h : RepK W H (Fr L B) ob d v) (s : ∀ i ∈ B, i ∈ B') : RepK W H (Fr L B') ob d v := RepK.mono (Kp.sub fun a u f _ => Fr.mono s f) d v h
theorem RepT.wide {W : Wd} {H : Hp} {L : Lc} {B B' : List Nat} {ob : Nat → Option Addr} {d : List (List Key × D)} {v : List (List Key × V)} (h : RepT W H (Fr L B) ob d v) (s : ∀ i ∈ B, i ∈ B') : RepT W H (Fr L B') ob d v := RepT.mono (Kp.sub fun a u f _ => Fr.mono s f) d v h
theorem nilsub {B : List Nat} : ∀ i ∈ ([] : List Nat), i ∈ B := fun _ h => by cases h
theorem subl {A B : List Nat} : ∀ i ∈ A, i ∈ A ++ B := fun _ h => List.mem_append_left _ h
theorem subr {A B : List Nat} : ∀ i ∈ B, i ∈ A ++ B := fun _ h => List.mem_append_right _ h
theorem subid {A : List Nat} : ∀ i ∈ A, i ∈ A := fun _ h => h

/-- results that are no objects -/
def D.flat : D → Bool
  | .non => true
  | .bl _ => true
  | .int _ => true
  | .str _ => true
  | _ => false
theorem Leaf.ret {W : Wd} {Wx : WX} {L : Lc} {B : List Nat} {σ : L2.St} {H : Hp} {Q : VK} {d : D} {v : V} (h : Leaf W Wx L B σ H Q (.ok d)) (r : Rep W H (Fr L B) (obs L) d v) : Q v H := h v H (Same.refl H) r
theorem Leaf.ret' {W : Wd} {Wx : WX} {L : Lc} {B : List Nat} {σ : L2.St} {H H' : Hp} {Q : VK} {d : D} {v : V} (h : Leaf W Wx L B σ H Q (.ok d)) (s : Same H H') (r : Rep W H' (Fr L B) (obs L) d v) : Q v H' := h v H' s r

/-- a representation whose outermost container may be anybody's -/
def RepU (W : Wd) (H : Hp) (S : Addr → Prop) (ob : Nat → Option Addr) : D → V → Prop
  | .lst xs, v => ∃ a vs, v = .ref a ∧ H a = some (.lst vs) ∧ Reps W H S ob xs vs
  | .dK kvs, v => ∃ a vs, v = .ref a ∧ Rd H a (.dK vs) ∧ RepK W H S ob kvs vs
  | .dT kvs, v => ∃ a vs, v = .ref a ∧ Rd H a (.dT vs) ∧ RepT W H S ob kvs vs
  | d, v => Rep W H S ob d v
theorem Rep.u {W : Wd} {H : Hp} {S : Addr → Prop} {ob : Nat → Option Addr} : ∀ {d : D} {v : V}, Rep W H S ob d v → RepU W H S ob d v
  | .lst xs, v, ⟨a, vs, e, s, h, q⟩ => ⟨a, vs, e, h, q⟩
  | .dK xs, v, ⟨a, vs, e, s, h, q⟩ => ⟨a, vs, e, h, q⟩
  | .dT xs, v, ⟨a, vs, e, s, h, q⟩ => ⟨a, vs, e, h, q⟩
  | .non, _, h | .bl _, _, h | .int _, _, h | .str _, _, h | .tup _, _, h | .ctup _, _, h | .ins _ _, _, h | .obj _, _, h => h
theorem Rd.same {H H' : Hp} {a : Addr} {u : HO} (h : Rd H a u) (s : Same H H') : Rd H' a u := by
  rcases h with h | ⟨o, h⟩
  · exact .inl (s a _ h)
  · exact .inr ⟨o, s a _ h⟩
theorem RepU.same {W : Wd} {H H' : Hp} {S : Addr → Prop} {ob : Nat → Option Addr} : ∀ {d : D} {v : V}, RepU W H S ob d v → Same H H' → RepU W H' S ob d v
  | .lst xs, v, ⟨a, vs, e, h, q⟩, s => ⟨a, vs, e, s _ _ h, Reps.same q s⟩
  | .dK xs, v, ⟨a, vs, e, h, q⟩, s => ⟨a, vs, e, Rd.same h s, RepK.mono (Kp.same s) _ _ q⟩
  | .dT xs, v, ⟨a, vs, e, h, q⟩, s => ⟨a, vs, e, Rd.same h s, RepT.mono (Kp.same s) _ _ q⟩
  | .non, _, h, s | .bl _, _, h, s | .int _, _, h, s | .str _, _, h, s | .tup _, _, h, s | .ctup _, _, h, s | .ins _ _, _, h, s | .obj _, _, h, s => Rep.same h s
theorem RepU.wide {W : Wd} {H : Hp} {L : Lc} {B B' : List Nat} {ob : Nat → Option Addr} : ∀ {d : D} {v : V}, RepU W H (Fr L B) ob d v → (∀ i ∈ B, i ∈ B') → RepU W H (Fr L B') ob d v
  | .lst xs, v, ⟨a, vs, e, h, q⟩, s => ⟨a, vs, e, h, q.wide s⟩
  | .dK xs, v, ⟨a, vs, e, h, q⟩, s => ⟨a, vs, e, h, q.wide s⟩
  | .dT xs, v, ⟨a, vs, e, h, q⟩, s => ⟨a, vs, e, h, q.wide s⟩
  | .non, _, h, s | .bl _, _, h, s | .int _, _, h, s | .str _, _, h, s | .tup _, _, h, s | .ctup _, _, h, s | .ins _ _, _, h, s | .obj _, _, h, s => Rep.wide h s
def LeafU (W : Wd) (Wx : WX) (L : Lc) (B : List Nat) (σ : L2.St) (H : Hp) (Q : VK) : Res D → Prop
  | .stuck => False
  | .ok d => ∀ v H', Same H H' → RepU W H' (Fr L B) (obs L) d v → Q v H'
  | .err e => ∀ cls dd H', Same H H' → Exc W H' e cls dd → Wx cls dd σ H'
def tU (W : Wd) (Wx : WX) (B : List Nat) (m : M) : TE := fun σ H Q => ∃ F ρ ω L, Rel W F ρ ω L σ H ∧ LeafU W Wx L B σ H Q (m ρ ω)
structure DU (X : Cx) (Wx : WX) (B : List Nat) (e : Expr) (m : M) : Prop where
  pe : PE X e (tU (wd X) Wx B m)
theorem DP.u {X : Cx} {Wx : WX} {B : List Nat} {e : Expr} {m : M} (h : DP X Wx B e m) : DU X Wx B e m := ⟨PE.weak h.pe fun σ H Q ⟨F, ρ, ω, L, R, h⟩ => ⟨F, ρ, ω, L, R, by
  cases z : m ρ ω with
  | stuck => rw [z] at h; exact h
  | err x => rw [z] at h; exact h
  | ok x => rw [z] at h; exact fun v H1 s r => h v H1 s r.u⟩⟩
section
variable {X : Cx} {Wx : WX} {pos : Pos}
/-- one part -/
@[simp] def m1 (ma : M) (g : D → Res D) : M := fun ρ ω => (ma ρ ω).bind g
@[simp] def m2 (ma mb : M) (g : D → D → Res D) : M := fun ρ ω => (ma ρ ω).bind fun x => (mb ρ ω).bind fun y => g x y
theorem part1 {W : Wd} {F : Fm} {ρ : Env'} {ω : Store} {L : Lc} {σ : L2.St} {H : Hp} {Q : VK} {B Ba : List Nat} {ma : M} {k : D → Res D} (hB : ∀ i ∈ Ba, i ∈ B) (R : Rel W F ρ ω L σ H) (h : Leaf W Wx L B σ H Q ((ma ρ ω).bind k)) {P : VK}
    (hP : ∀ v H1 x, Same H H1 → Rel W F ρ ω L σ H1 → RepU W H1 (Fr L B) (obs L) x v → Leaf W Wx L B σ H1 Q (k x) → P v H1) : tU W Wx Ba ma σ H P := by
  refine ⟨F, ρ, ω, L, R, ?_⟩
  cases e : ma ρ ω with
  | stuck => rw [e] at h; exact h
  | err x => rw [e] at h; exact h
  | ok x =>
    rw [e] at h
    exact fun v H1 s r => hP v H1 x s (R.same s) (r.wide hB) (h.to s subid fun _ _ q => q)
theorem part2 {W : Wd} {F : Fm} {ρ : Env'} {ω : Store} {L : Lc} {σ : L2.St} {H : Hp} {Q : VK} {B Ba Bb : List Nat} {ma mb : M} {k : D → D → Res D} (hA : ∀ i ∈ Ba, i ∈ B) (hB : ∀ i ∈ Bb, i ∈ B) (R : Rel W F ρ ω L σ H) (h : Leaf W Wx L B σ H Q (m2 ma mb k ρ ω)) {P : V → V → Hp → Prop}
    (hP : ∀ v w H1 x y, Same H H1 → Rel W F ρ ω L σ H1 → RepU W H1 (Fr L B) (obs L) x v → RepU W H1 (Fr L B) (obs L) y w → Leaf W Wx L B σ H1 Q (k x y) → P v w H1) : tU W Wx Ba ma σ H (fun v H1 => tU W Wx Bb mb σ H1 (fun w H2 => P v w H2)) := by
  refine part1 (k := fun x => (mb ρ ω).bind fun y => k x y) hA R h fun v H1 x s1 R1 r1 l1 => ?_
  exact part1 hB R1 l1 fun w H2 y s2 R2 r2 l2 => hP v w H2 x y (s1.trans s2) R2 (r1.same s2) r2 l2
/-- an operator by values -/
def LfOp (W : Wd) (g : D → D → Res D) (r : R2) : Prop := ∀ (Wx : WX) (L : Lc) (B : List Nat) (σ : L2.St) (H : Hp) (Q : VK) (x y : D) (v w : V), Al L H → RepU W H (Fr L B) (obs L) x v → RepU W H (Fr L B) (obs L) y w → Leaf W Wx L B σ H Q (g x y) → r v w H Q
theorem LfOp.or1 {W : Wd} {g : D → D → Res D} {r r' : R2} (h : LfOp W g r) : LfOp W g (fun x y H Q => r x y H Q ∨ r' x y H Q) := fun Wx L B σ H Q x y v w a p q l => .inl (h Wx L B σ H Q x y v w a p q l)
theorem d_bin {op : Operator} {a b : Expr} {Ba Bb : List Nat} {ma mb : M} {g : D → D → Res D} {r : R2} (ho : OpR X (binaryOp op) r) (hl : LfOp (wd X) g r) (ha : DU X Wx Ba a ma) (hb : DU X Wx Bb b mb) : DP X Wx (Ba ++ Bb) (.BinOp a op b pos) (m2 ma mb g) :=
  ⟨PE.weak (pe_op ho ha.pe hb.pe) fun σ H Q ⟨F, ρ, ω, L, R, h⟩ => part2 subl subr R h fun v w H1 x y s R1 p q l => hl Wx L _ σ H1 Q x y v w R1.al p q l⟩
theorem d_cmp {op : CmpOp} {a b : Expr} {Ba Bb : List Nat} {ma mb : M} {g : D → D → Res D} {r : R2} (ho : OpR X (compareOp op) r) (hl : LfOp (wd X) g r) (hm : behindInMarks op b = false) (ha : DU X Wx Ba a ma) (hb : DU X Wx Bb b mb) : DP X Wx (Ba ++ Bb) (.Compare a [op] [b] pos) (m2 ma mb g) :=
  ⟨PE.weak (pe_cmpR ho ha.pe hb.pe hm) fun σ H Q ⟨F, ρ, ω, L, R, h⟩ => part2 subl subr R h fun v w H1 x y s R1 p q l => hl Wx L _ σ H1 Q x y v w R1.al p q l⟩
/-- a comparison as a test -/
@[simp] def b2 (ma mb : M) (g : D → D → Res D) : Env' → Store → Res Bool := fun ρ ω => (ma ρ ω).bind fun x => (mb ρ ω).bind fun y => (g x y).bind fun z => match z with | .bl k => .ok k | _ => .stuck
theorem leaf_b {W : Wd} {L : Lc} {B : List Nat} {σ : L2.St} {H : Hp} {Q : Bool → Hp → Prop} {r : Res D} (h : LeafB W Wx L σ H Q (r.bind fun z => match z with | .bl k => .ok k | _ => .stuck)) : Leaf W Wx L B σ H (fun x H' => ∃ k, x = .bl k ∧ Q k H') r := by
  cases r with
  | stuck => exact h
  | err e => exact h
  | ok d =>
    cases d with
    | bl k => exact fun v H' s r => ⟨k, r, h H' s⟩
    | _ => exact h.elim
theorem part2b {W : Wd} {F : Fm} {ρ : Env'} {ω : Store} {L : Lc} {σ : L2.St} {H : Hp} {Q : Bool → Hp → Prop} {B Ba Bb : List Nat} {ma mb : M} {k : D → D → Res D} (hA : ∀ i ∈ Ba, i ∈ B) (hB : ∀ i ∈ Bb, i ∈ B) (R : Rel W F ρ ω L σ H) (h : LeafB W Wx L σ H Q (b2 ma mb k ρ ω)) {P : V → V → Hp → Prop}
    (hP : ∀ v w H1 x y, Same H H1 → Rel W F ρ ω L σ H1 → RepU W H1 (Fr L B) (obs L) x v → RepU W H1 (Fr L B) (obs L) y w → Leaf W Wx L B σ H1 (fun x H' => ∃ k, x = .bl k ∧ Q k H') (k x y) → P v w H1) : tU W Wx Ba ma σ H (fun v H1 => tU W Wx Bb mb σ H1 (fun w H2 => P v w H2)) := by
  refine part2 (Q := fun x H' => ∃ k, x = .bl k ∧ Q k H') (k := k) hA hB R ?_ hP
  refine leaf_b ?_
  have e : b2 ma mb k ρ ω = (m2 ma mb k ρ ω).bind fun z => match z with | .bl k => .ok k | _ => .stuck := by
    unfold b2 m2
    cases ma ρ ω with
    | stuck => rfl
    | err e => rfl
    | ok x =>
      cases mb ρ ω with
      | stuck => rfl
      | err e => rfl
      | ok y => rfl
  rw [← e]
  exact h
theorem t_cmp {op : CmpOp} {a b : Expr} {Ba Bb : List Nat} {ma mb : M} {g : D → D → Res D} {r : R2} (ho : OpR X (compareOp op) r) (hl : LfOp (wd X) g r) (hm : behindInMarks op b = false) (ha : DU X Wx Ba a ma) (hb : DU X Wx Bb b mb) : DB X Wx (.Compare a [op] [b] pos) (b2 ma mb g) :=
  ⟨PT.weak (pt_cmpR ho ha.pe hb.pe hm) fun σ H Q ⟨F, ρ, ω, L, R, h⟩ => part2b (B := Ba ++ Bb) subl subr R h fun v w H1 x y s R1 p q l => hl Wx L _ σ H1 _ x y v w R1.al p q l⟩
/-- an expression that is True or False, as a test -/
@[simp] def bV (ma : M) : Env' → Store → Res Bool := fun ρ ω => (ma ρ ω).bind fun z => match z with | .bl k => .ok k | _ => .stuck
theorem t_val {e : Expr} {B : List Nat} {ma : M} (ha : DP X Wx B e ma) (he : ∀ whole, isTrue e X.env whole = (do let v ← whole; standAt e.pos; holding [v] (truthy v)) := by intro _; rfl) : DB X Wx e (bV ma) :=
  ⟨PT.weak (pt_val ha.pe he) fun σ H Q ⟨F, ρ, ω, L, R, h⟩ => ⟨F, ρ, ω, L, R, leaf_b h⟩⟩
/-! ### names, constants -/
@[simp] def mV (i : Nat) : M := fun ρ _ => match ρ[i]? with
  | some (.val d) => .ok d
  | some (.own d) => .ok d
  | _ => .stuck
theorem Rel.own_rep {W : Wd} {F : Fm} {ρ : Env'} {ω : Store} {L : Lc} {σ : L2.St} {H : Hp} (R : Rel W F ρ ω L σ H) {i : Nat} {ex : Bool} : ∀ {d : D} {a : Addr}, L (.sl i) = some a → RepO W H (Fr L []) (obs L) ex d a → Rep W H (Fr L [i]) (obs L) d (.ref a) := by
  intro d a e h
  have f : Fr L [i] a := fun p q => ⟨i, List.mem_singleton.mpr rfl, R.inj p (.sl i) a q e⟩
  cases d with
  | lst xs =>
    obtain ⟨vs, h, q⟩ := h
    exact ⟨a, vs, rfl, f, h, Reps.wide q nilsub⟩
  | dK xs =>
    obtain ⟨vs, h, q⟩ := h
    exact ⟨a, vs, rfl, f, h.rd, RepK.wide q nilsub⟩
  | dT xs =>
    obtain ⟨vs, h, q⟩ := h
    exact ⟨a, vs, rfl, f, h.rd, RepT.wide q nilsub⟩
  | _ => exact h.elim
theorem d_var (i : Nat) {x : Str} (hN : X.N[i]? = some x := by rfl) (hv : Vis X.env.scope x := by first | exact Or.inl rfl | exact Or.inr (Or.inl rfl) | exact Or.inr (Or.inr rfl)) (hd : (x == ("__debug__" : Str)) = false := by decide)
    (hcd : (x == ("__classdict__" : Str)) = false := by decide) : DP X Wx [i] (.Name x pos) (mV i) :=
  ⟨PE.weak (pe_var (i := i) hN hv hd hcd) fun σ H Q ⟨F, ρ, ω, L, R, h⟩ => by
    unfold mV at h
    cases e : ρ[i]? with
    | none => rw [e] at h; exact h.elim
    | some s =>
      rw [e] at h
      have q := R.sl i s e
      cases s with
      | no => exact h.elim
      | val d =>
        obtain ⟨x, e1, r⟩ := q
        have e2 : σ[i]? = some (some x) := by
          cases z : σ[i]? with
          | none => rw [z] at e1; cases e1
          | some y => rw [z] at e1; exact congrArg some e1
        exact ⟨x, e2, h.ret (r.wide nilsub)⟩
      | own d =>
        obtain ⟨a, e1, l, r⟩ := q
        have e2 : σ[i]? = some (some (.ref a)) := by
          cases z : σ[i]? with
          | none => rw [z] at e1; cases e1
          | some y => rw [z] at e1; exact congrArg some e1
        exact ⟨.ref a, e2, h.ret (R.own_rep l r)⟩⟩
theorem u_var (i : Nat) {x : Str} (hN : X.N[i]? = some x := by rfl) (hv : Vis X.env.scope x := by first | exact Or.inl rfl | exact Or.inr (Or.inl rfl) | exact Or.inr (Or.inr rfl)) (hd : (x == ("__debug__" : Str)) = false := by decide)
    (hcd : (x == ("__classdict__" : Str)) = false := by decide) : DU X Wx [] (.Name x pos) (mV i) :=
  ⟨PE.weak (pe_var (i := i) hN hv hd hcd) fun σ H Q ⟨F, ρ, ω, L, R, h⟩ => by
    unfold mV at h
    cases e : ρ[i]? with
    | none => rw [e] at h; exact h.elim
    | some s =>
      rw [e] at h
      have q := R.sl i s e
      cases s with
      | no => exact h.elim
      | val d =>
        obtain ⟨x, e1, r⟩ := q
        have e2 : σ[i]? = some (some x) := by
          cases z : σ[i]? with
          | none => rw [z] at e1; cases e1
          | some y => rw [z] at e1; exact congrArg some e1
        exact ⟨x, e2, h x H (Same.refl H) r.u⟩
      | own d =>
        obtain ⟨a, e1, l, r⟩ := q
        have e2 : σ[i]? = some (some (.ref a)) := by
          cases z : σ[i]? with
          | none => rw [z] at e1; cases e1
          | some y => rw [z] at e1; exact congrArg some e1
        refine ⟨.ref a, e2, h _ H (Same.refl H) ?_⟩
        cases d with
        | lst xs =>
          obtain ⟨vs, h, q⟩ := r
          exact ⟨a, vs, rfl, h, q⟩
        | dK xs =>
          obtain ⟨vs, h, q⟩ := r
          exact ⟨a, vs, rfl, h.rd, q⟩
        | dT xs =>
          obtain ⟨vs, h, q⟩ := r
          exact ⟨a, vs, rfl, h.rd, q⟩
        | _ => exact r.elim⟩
@[simp] def mC (d : D) : M := fun _ _ => .ok d
theorem d_const {e : Expr} {v : V} {d : D} (h : PE X e (tC v)) (r : ∀ (H : Hp) (S : Addr → Prop) (ob : Nat → Option Addr), Rep (wd X) H S ob d v) : DP X Wx [] e (mC d) :=
  ⟨PE.weak h fun σ H Q ⟨F, ρ, ω, L, R, h⟩ => h.ret (r H _ _)⟩
theorem d_int {i j} : DP X Wx [] (.Constant (.int i) j pos) (mC (.int i)) := d_const pe_int fun _ _ _ => rfl
theorem d_bl {i j} : DP X Wx [] (.Constant (.bool i) j pos) (mC (.bl i)) := d_const pe_bl fun _ _ _ => rfl
theorem d_str {i j} : DP X Wx [] (.Constant (.str i) j pos) (mC (.str i)) := d_const pe_str fun _ _ _ => rfl
theorem d_non {j} : DP X Wx [] (.Constant .none j pos) (mC .non) := d_const pe_non fun _ _ _ => rfl
theorem d_globI {x : Str} {i : Int} (hg : Gl X x) (hm : ∃ t, X.mg x = some (.int i t)) (hd : (x == ("__debug__" : Str)) = false := by decide) : DP X Wx [] (.Name x pos) (mC (.int i)) := by
  obtain ⟨t, hm⟩ := hm
  exact d_const (pe_glob (v := .int i) hg hm ⟨t, rfl⟩ hd) fun _ _ _ => rfl
theorem d_globS {x : Str} {i : Str} (hg : Gl X x) (hm : ∃ t, X.mg x = some (.str i t)) (hd : (x == ("__debug__" : Str)) = false := by decide) : DP X Wx [] (.Name x pos) (mC (.str i)) := by
  obtain ⟨t, hm⟩ := hm
  exact d_const (pe_glob (v := .str i) hg hm ⟨t, rfl⟩ hd) fun _ _ _ => rfl
end
end DL
namespace DL
open PySem PySem.Spec PyProof.Rows L2

/-! ### operators on values -/
noncomputable def gAdd : D → D → Res D
  | .int i, .int j => .ok (.int (i + j))
  | .str i, .str j => @ite _ (i.length + j.length ≤ 16777216) (Classical.propDecidable _) (.ok (.str (i ++ j))) .stuck
  | .lst xs, .lst ys => @ite _ (xs.length + ys.length ≤ 16777216) (Classical.propDecidable _) (.ok (.lst (xs ++ ys))) .stuck
  | .tup xs, .tup ys => @ite _ (xs.length + ys.length ≤ 16777216 ∧ xs ≠ [] ∧ ys ≠ []) (Classical.propDecidable _) (.ok (.tup (xs ++ ys))) .stuck
  | _, _ => .stuck
abbrev rAdd4 (K : PySem.W.Frag) : R2 := fun x y H Q => (rI0 fun i j => .int (i + j)) x y H Q ∨ ((∃ i j, x = .str i ∧ y = .str j ∧ i.length + j.length ≤ sizeLine ∧ Q (.str (i ++ j)) H) ∨ (rCat x y H Q ∨ rCatT K x y H Q))
theorem op_add4 {X : Cx} : OpR X (binaryOp .Add) (rAdd4 X.K) := op_add.or (op_add_str.or (op_cat.or op_catT))
theorem lf_add {W : Wd} : LfOp W gAdd (rAdd4 W.K) := by
  intro Wx L B σ H Q x y v w al p q l
  unfold gAdd at l
  split at l
  · exact .inl ⟨_, _, p, q, l.ret rfl⟩
  · split at l
    · rename_i h
      exact .inr (.inl ⟨_, _, p, q, by rw [sizeLine_eq]; exact h, l.ret rfl⟩)
    · exact l.elim
  · split at l
    · rename_i h
      obtain ⟨a, vs, e1, h1, r1⟩ := p
      obtain ⟨b, ws, e2, h2, r2⟩ := q
      refine .inr (.inr (.inl ⟨a, b, vs, ws, e1, e2, h1, h2, by rw [sizeLine_eq, r1.len, r2.len]; exact h, fun z hz => ?_⟩))
      have sm := same_upd (o := .lst (vs ++ ws)) hz
      exact l.ret' sm ⟨z, vs ++ ws, rfl, al.fr hz B, upd_same, Reps.app (r1.same sm) (r2.same sm)⟩
    · exact l.elim
  · split at l
    · rename_i h
      obtain ⟨h0, hx, hy⟩ := h
      obtain ⟨a, vs, e1, h1, r1⟩ := p
      obtain ⟨b, ws, e2, h2, r2⟩ := q
      have nv : vs ≠ [] := fun z => hx (List.eq_nil_of_length_eq_zero (by rw [← r1.len, z]; rfl))
      have nw : ws ≠ [] := fun z => hy (List.eq_nil_of_length_eq_zero (by rw [← r2.len, z]; rfl))
      refine .inr (.inr (.inr ⟨a, b, vs, ws, e1, e2, .of h1, .of h2, nv, by rw [sizeLine_eq, r1.len, r2.len]; exact h0, fun z => absurd z nw, fun _ z hz => ?_⟩))
      have sm := same_upd (o := .tup (vs ++ ws)) hz
      exact l.ret' sm ⟨z, vs ++ ws, rfl, upd_same, Reps.app (r1.same sm) (r2.same sm)⟩
    · exact l.elim
  · exact l.elim
@[simp] def gSub : D → D → Res D
  | .int i, .int j => .ok (.int (i - j))
  | _, _ => .stuck
theorem lf_sub {W : Wd} : LfOp W gSub (rI0 fun i j => .int (i - j)) := by
  intro Wx L B σ H Q x y v w al p q l
  unfold gSub at l
  split at l
  · exact ⟨_, _, p, q, l.ret rfl⟩
  · exact l.elim
/-- text times number -/
def repS (x : Str) (n : Nat) : Str := ⟨(List.replicate n x.cps).foldl (· ++ ·) #[]⟩
abbrev rMulS : R2 := fun x y H Q => ∃ (i : Str) (n : Int), x = .str i ∧ y = .int n ∧ 0 ≤ n ∧ n ≤ 1000 ∧ i.length ≤ 1000 ∧ Q (.str (repS i n.toNat)) H
theorem foldl_app {α : Type} (a : Array α) : ∀ n : Nat, ((List.replicate n a).foldl (· ++ ·) #[]).size = n * a.size := by
  have key : ∀ (n : Nat) (acc : Array α), ((List.replicate n a).foldl (· ++ ·) acc).size = acc.size + n * a.size := by
    intro n
    induction n with
    | zero => intro acc; simp
    | succ n ih =>
      intro acc
      rw [List.replicate_succ, List.foldl_cons, ih, Array.size_append, Nat.succ_mul]
      omega
  intro n
  rw [key]; simp
theorem op_mulS {X : Cx} : OpR X (binaryOp .Mult) rMulS := by
  intro pins s σ H x y v u Q I rx ry h
  obtain ⟨i, n, rfl, rfl, h0, h1, h2, q⟩ := h
  obtain ⟨t, rfl⟩ := rx
  obtain ⟨t', rfl⟩ := ry
  have h3 : n.toNat ≤ 1000 := by omega
  have h4 : i.length * n.toNat ≤ 1000 * 1000 := Nat.mul_le_mul h2 h3
  refine PySem.P.mul_str (by
    rw [decide_eq_false (show ¬ n < -(2 ^ 63 : Int) by omega), decide_eq_false (show ¬ n ≥ 2 ^ 63 by omega)]; rfl) (fun g1 _ => ?_) (fun _ _ => ?_) ?_
  · have g2 : (2 ^ 63 - 1) / n ≥ (2 ^ 63 - 1) / 1000 := by
      have : (1:Int) ≤ n := by omega
      rw [ge_iff_le]
      refine (Int.le_ediv_iff_mul_le (by omega)).mpr ?_
      have e : ((2 ^ 63 - 1) / 1000 : Int) = 9223372036854775 := by decide
      rw [e]
      have : (9223372036854775 : Int) * n ≤ 9223372036854775 * 1000 := Int.mul_le_mul_of_nonneg_left h1 (by decide)
      omega
    have e : ((2 ^ 63 - 1) / 1000 : Int) = 9223372036854775 := by decide
    omega
  · unfold Builtin.Str.tooLong
    first
      | exact decide_eq_false (by rw [sizeLine_eq]; omega)
      | simp [sizeLine_eq] <;> omega
  · by_cases g1 : n < 1
    · rw [if_pos g1]
      have e : n = 0 := by omega
      subst e
      refine ⟨by decide, .str Str.empty, H, I.tok _, ⟨_, rfl⟩, ?_⟩
      exact q
    · rw [if_neg g1]
      by_cases g2 : (n == 1 || i.length == 0) = true
      · rw [if_pos g2]
        refine ⟨.str i, H, I, ⟨_, rfl⟩, ?_⟩
        have e : repS i n.toNat = i := by
          rcases Bool.or_eq_true_iff.mp g2 with z | z
          · have : n = 1 := by simpa using z
            subst this
            show Str.mk (#[] ++ i.cps) = i
            simp
          · have z : i.length = 0 := by simpa using z
            have z1 : i.cps.size = 0 := z
            have z2 : i.cps = #[] := Array.eq_empty_of_size_eq_zero z1
            show Str.mk _ = i
            have z3 : (List.replicate n.toNat i.cps).foldl (· ++ ·) #[] = #[] := Array.eq_empty_of_size_eq_zero (by rw [foldl_app, z1, Nat.mul_zero])
            rw [z3, ← z2]
        rw [e] at q
        exact q
      · rw [if_neg g2]
        refine ⟨?_, .str (repS i n.toNat), H, I.tok _, ⟨_, rfl⟩, q⟩
        show (_ : Array Nat).size ≤ _
        rw [foldl_app]
        have e : i.cps.size = i.length := rfl
        rw [e, Nat.mul_comm]
        exact Nat.le_trans h4 (by decide)
end DL
namespace DL
open PySem PySem.Spec PyProof.Rows L2

/-! ### more operators -/
noncomputable def gMul : D → D → Res D
  | .int i, .int j => @ite _ (((-(18446744073709551616) < i ∧ i < 18446744073709551616) ∨ (-(18446744073709551616) < j ∧ j < 18446744073709551616))) (Classical.propDecidable _) (.ok (.int (i * j))) .stuck
  | .str i, .int n => if 0 ≤ n ∧ n ≤ 1000 ∧ i.length ≤ 1000 then .ok (.str (repS i n.toNat)) else .stuck
  | .lst xs, .int n => if 0 ≤ n ∧ n ≤ 1000 ∧ xs.length ≤ 1000 then .ok (.lst (List.replicate n.toNat xs).flatten) else .stuck
  | _, _ => .stuck
abbrev rMul3 : R2 := fun x y H Q => (rI CMul fun i j => .int (i * j)) x y H Q ∨ (rMulS x y H Q ∨ rRep x y H Q)
theorem op_mul3 {X : Cx} : OpR X (binaryOp .Mult) rMul3 := op_mul.or (op_mulS.or op_rep)
theorem reps_rep {W : Wd} {H : Hp} {S : Addr → Prop} {ob : Nat → Option Addr} {xs : List D} {vs : List V} (h : Reps W H S ob xs vs) : ∀ n : Nat, Reps W H S ob (List.replicate n xs).flatten (List.replicate n vs).flatten
  | 0 => Reps.nil
  | n + 1 => by
    rw [List.replicate_succ, List.replicate_succ, List.flatten_cons, List.flatten_cons]
    exact Reps.app h (reps_rep h n)
theorem lf_mul {W : Wd} : LfOp W gMul rMul3 := by
  intro Wx L B σ H Q x y v w al p q l
  unfold gMul at l
  split at l
  · split at l
    · rename_i h
      refine .inl ⟨_, _, p, q, ?_, l.ret rfl⟩
      rcases h with ⟨a, b⟩ | ⟨a, b⟩
      · exact .inl ⟨by omega, by omega⟩
      · exact .inr ⟨by omega, by omega⟩
    · exact l.elim
  · split at l
    · rename_i h
      exact .inr (.inl ⟨_, _, p, q, h.1, h.2.1, h.2.2, l.ret rfl⟩)
    · exact l.elim
  · split at l
    · rename_i xs n h
      obtain ⟨a, vs, e1, h1, r1⟩ := p
      refine .inr (.inr ⟨a, n, vs, e1, q, h1, by omega, by omega, ?_, ?_⟩)
      · rw [sizeLine_eq, r1.len]
        have : xs.length * n.toNat ≤ 1000 * 1000 := Nat.mul_le_mul h.2.2 (by omega)
        omega
      · intro z hz
        have sm := same_upd (o := .lst (List.replicate n.toNat vs).flatten) hz
        exact l.ret' sm ⟨z, _, rfl, al.fr hz B, upd_same, reps_rep (r1.same sm) _⟩
    · exact l.elim
  · exact l.elim
@[simp] def gMod : D → D → Res D
  | .int i, .int j => if 0 < j then .ok (.int (i % j)) else .stuck
  | _, _ => .stuck
theorem lf_mod {W : Wd} : LfOp W gMod (rI (fun _ j => 0 < j) fun i j => .int (i % j)) := by
  intro Wx L B σ H Q x y v w al p q l
  unfold gMod at l
  split at l
  · split at l
    · rename_i h
      exact ⟨_, _, p, q, h, l.ret rfl⟩
    · exact l.elim
  · exact l.elim
noncomputable def gDiv : D → D → Res D
  | .int i, .int j => @ite _ (0 < j ∧ j < 1073741824) (Classical.propDecidable _) (.ok (.int (i / j))) .stuck
  | _, _ => .stuck
theorem lf_div {W : Wd} : LfOp W gDiv (rI CDiv fun i j => .int (i / j)) := by
  intro Wx L B σ H Q x y v w al p q l
  unfold gDiv at l
  split at l
  · split at l
    · rename_i h
      exact ⟨_, _, p, q, h, l.ret rfl⟩
    · exact l.elim
  · exact l.elim
noncomputable def gPow : D → D → Res D
  | .int i, .int j => @ite _ (0 ≤ j ∧ j ≤ 1000000 ∧ i.natAbs < 18446744073709551616) (Classical.propDecidable _) (.ok (.int (i ^ j.toNat))) .stuck
  | _, _ => .stuck
theorem lf_pow {W : Wd} : LfOp W gPow (rI CPow fun i j => .int (i ^ j.toNat)) := by
  intro Wx L B σ H Q x y v w al p q l
  unfold gPow at l
  split at l
  · split at l
    · rename_i h
      exact ⟨_, _, p, q, ⟨h.1, h.2.1, by have := h.2.2; omega⟩, l.ret rfl⟩
    · exact l.elim
  · exact l.elim
section
variable {X : Cx} {Wx : WX} {pos : Pos} {a b : Expr} {Ba Bb : List Nat} {ma mb : M}
theorem d_add (ha : DU X Wx Ba a ma) (hb : DU X Wx Bb b mb) : DP X Wx (Ba ++ Bb) (.BinOp a .Add b pos) (m2 ma mb gAdd) := d_bin op_add4 lf_add ha hb
theorem d_sub (ha : DU X Wx Ba a ma) (hb : DU X Wx Bb b mb) : DP X Wx (Ba ++ Bb) (.BinOp a .Sub b pos) (m2 ma mb gSub) := d_bin op_sub lf_sub ha hb
theorem d_mul (ha : DU X Wx Ba a ma) (hb : DU X Wx Bb b mb) : DP X Wx (Ba ++ Bb) (.BinOp a .Mult b pos) (m2 ma mb gMul) := d_bin op_mul3 lf_mul ha hb
theorem d_mod (ha : DU X Wx Ba a ma) (hb : DU X Wx Bb b mb) : DP X Wx (Ba ++ Bb) (.BinOp a .Mod b pos) (m2 ma mb gMod) := d_bin op_mod lf_mod ha hb
theorem d_fdiv (ha : DU X Wx Ba a ma) (hb : DU X Wx Bb b mb) : DP X Wx (Ba ++ Bb) (.BinOp a .FloorDiv b pos) (m2 ma mb gDiv) := d_bin op_fdiv lf_div ha hb
theorem d_pow (ha : DU X Wx Ba a ma) (hb : DU X Wx Bb b mb) : DP X Wx (Ba ++ Bb) (.BinOp a .Pow b pos) (m2 ma mb gPow) := d_bin op_pow lf_pow ha hb
@[simp] def gNeg : D → Res D
  | .int i => .ok (.int (-i))
  | _ => .stuck
theorem d_neg (ha : DU X Wx Ba a ma) : DP X Wx Ba (.UnaryOp .USub a pos) (m1 ma gNeg) :=
  ⟨PE.weak (pe_un un_neg ha.pe) fun σ H Q ⟨F, ρ, ω, L, R, h⟩ => part1 subid R h fun v H1 x s R1 p l => by
    unfold gNeg at l
    split at l
    · exact ⟨_, p, l.ret rfl⟩
    · exact l.elim⟩
end

/-! ### comparisons of ints -/
@[simp] def gInt (f : Int → Int → Bool) : D → D → Res D
  | .int i, .int j => .ok (.bl (f i j))
  | _, _ => .stuck
theorem lf_int {W : Wd} {f : Int → Int → Bool} : LfOp W (gInt f) (rI0 fun i j => .bl (f i j)) := by
  intro Wx L B σ H Q x y v w al p q l
  unfold gInt at l
  split at l
  · exact ⟨_, _, p, q, l.ret rfl⟩
  · exact l.elim
abbrev gLt := gInt fun i j => decide (i < j)
abbrev gLe := gInt fun i j => decide (i ≤ j)
abbrev gGt := gInt fun i j => decide (j < i)
abbrev gGe := gInt fun i j => decide (j ≤ i)
/-! ### == -/
mutual
def D.py : D → Option PyData
  | .non => some .none
  | .bl b => some (.bool b)
  | .int i => some (.int i)
  | .str s => some (.str s)
  | .lst xs => (D.pys xs).map .list
  | .tup xs => (D.pys xs).map .tuple
  | .ctup xs => none
  | .dK _ => none
  | .dT _ => none
  | .ins _ _ => none
  | .obj _ => none
def D.pys : List D → Option (List PyData)
  | [] => some []
  | d :: r => match D.py d with
    | none => none
    | some x => match D.pys r with
      | none => none
      | some y => some (x :: y)
end
section
variable {W : Wd} {H : Hp} {S : Addr → Prop} {ob : Nat → Option Addr}
mutual
theorem D.py_dp : ∀ (d : D) (v : V) (p : PyData), D.py d = some p → Rep W H S ob d v → Dp W.K H v p
  | .non, v, p, e, r => by cases e; rw [show v = .non from r]; exact .non
  | .bl b, v, p, e, r => by cases e; rw [show v = .bl b from r]; exact .bl b
  | .int i, v, p, e, r => by cases e; rw [show v = .int i from r]; exact .int i
  | .str i, v, p, e, r => by cases e; rw [show v = .str i from r]; exact .str i
  | .lst xs, v, p, e, r => by
    obtain ⟨a, vs, e1, s, h, q⟩ := r
    have e : (D.pys xs).map .list = some p := e
    cases z : D.pys xs with
    | none => rw [z] at e; cases e
    | some ps =>
      rw [z] at e
      have e : PyData.list ps = p := Option.some.inj e
      rw [← e, e1]
      exact .lst (.of h) (D.pys_dp xs vs ps z q)
  | .tup xs, v, p, e, r => by
    obtain ⟨a, vs, e1, h, q⟩ := r
    have e : (D.pys xs).map .tuple = some p := e
    cases z : D.pys xs with
    | none => rw [z] at e; cases e
    | some ps =>
      rw [z] at e
      have e : PyData.tuple ps = p := Option.some.inj e
      rw [← e, e1]
      exact .tup (.of h) (D.pys_dp xs vs ps z q)
  | .ctup _, _, _, e, _ | .dK _, _, _, e, _ | .dT _, _, _, e, _ | .ins _ _, _, _, e, _ | .obj _, _, _, e, _ => by cases e
theorem D.pys_dp : ∀ (d : List D) (v : List V) (p : List PyData), D.pys d = some p → Reps W H S ob d v → DpAll W.K H v p
  | [], v, p, e, r => by cases e; rw [show v = [] from r]; exact .nil
  | d :: ds, v, p, e, r => by
    obtain ⟨x, t, e1, r1, r2⟩ := r
    have e : (match D.py d with
      | none => none
      | some x => match D.pys ds with
        | none => none
        | some y => some (x :: y)) = some p := e
    cases z1 : D.py d with
    | none => rw [z1] at e; cases e
    | some a =>
      cases z2 : D.pys ds with
      | none => rw [z1, z2] at e; cases e
      | some b =>
        rw [z1, z2] at e
        have e : a :: b = p := Option.some.inj e
        rw [← e, e1]
        exact .cons (D.py_dp d x a z1 r1) (D.pys_dp ds t b z2 r2)
end
end
/-- a list against a list without items -/
abbrev rEq0 : R2 := fun x y H Q => ∃ a b vs, x = .ref a ∧ y = .ref b ∧ H a = some (.lst vs) ∧ H b = some (.lst []) ∧ Q (.bl vs.isEmpty) H
abbrev rNe0 : R2 := fun x y H Q => ∃ a b vs, x = .ref a ∧ y = .ref b ∧ H a = some (.lst vs) ∧ H b = some (.lst []) ∧ Q (.bl (!vs.isEmpty)) H
theorem op_eq0 {X : Cx} (hu : X.A.units + 64 < cLine) : OpR X (compareOp .Eq) rEq0 := by
  intro pins s σ H x y v u Q I rx ry h
  obtain ⟨a, b, vs, rfl, rfl, h1, h2, q⟩ := h
  cases rx
  cases ry
  obtain ⟨its, r, p, _⟩ := I.list (.of h1)
  obtain ⟨its2, r2, p2, _⟩ := I.list (.of h2)
  cases r2
  cases r with
  | nil =>
    refine SeqAt.eq_listAt (e := fun _ => true) p.isList p2.isList rfl (by omega) ?_ ?_
    all_goals first
      | exact ⟨.bl _, H, I, rfl, q⟩
      | (intro k hk; simp at hk)
      | (intros; simp at *)
  | @cons y0 v0 ys us ra rb =>
    exact SeqAt.eq_list_lengthsAt p.isList p2.isList (by simp) (by omega) ⟨.bl _, H, I, rfl, q⟩
end DL
namespace DL
open PySem PySem.Spec PyProof.Rows L2

def gEqS : D → D → Option Bool
  | .int i, .int j => some (decide (i = j))
  | .str i, .str j => some (decide (i = j))
  | .bl i, .bl j => some (decide (i = j))
  | .non, .non => some true
  | .non, .int _ => some false
  | .int _, .non => some false
  | .non, .str _ => some false
  | .str _, .non => some false
  | .int _, .str _ => some false
  | .str _, .int _ => some false
  | _, _ => none
def gEqD (x y : D) : Option Bool := match D.py x, D.py y with
  | some p, some q => if SeqAt.shaped p && SeqAt.shaped q then some (PyData.eqv p q) else none
  | _, _ => none
def gEqL : D → D → Option Bool
  | .lst xs, .lst [] => some xs.isEmpty
  | _, _ => none
def gEq (x y : D) : Res D := match gEqS x y with
  | some b => .ok (.bl b)
  | none => match gEqL x y with
    | some b => .ok (.bl b)
    | none => match gEqD x y with
      | some b => .ok (.bl b)
      | none => .stuck
def gNe (x y : D) : Res D := match gEqS x y with
  | some b => .ok (.bl (!b))
  | none => match gEqD x y with
      | some b => .ok (.bl (!b))
      | none => .stuck
abbrev rEq3 (K : PySem.W.Frag) : R2 := fun x y H Q => rEq x y H Q ∨ (rEq0 x y H Q ∨ rEqD K x y H Q)
abbrev rNe3 (K : PySem.W.Frag) : R2 := fun x y H Q => rNe x y H Q ∨ rNeD K x y H Q
theorem op_eq3 {X : Cx} (hu : X.A.units + 64 < cLine) : OpR X (compareOp .Eq) (rEq3 X.K) := op_eq.or ((op_eq0 hu).or (op_eqD hu))
theorem op_ne3 {X : Cx} (hu : X.A.units + 64 < cLine) : OpR X (compareOp .NotEq) (rNe3 X.K) := op_ne.or (op_neD hu)
theorem D.py_dpU {W : Wd} {H : Hp} {S : Addr → Prop} {ob : Nat → Option Addr} : ∀ (d : D) (v : V) (p : PyData), D.py d = some p → RepU W H S ob d v → Dp W.K H v p
  | .lst xs, v, p, e, r => by
    obtain ⟨a, vs, e1, h, q⟩ := r
    have e : (D.pys xs).map .list = some p := e
    cases z : D.pys xs with
    | none => rw [z] at e; cases e
    | some ps =>
      rw [z] at e
      have e : PyData.list ps = p := Option.some.inj e
      rw [← e, e1]
      exact .lst (.of h) (D.pys_dp xs vs ps z q)
  | .non, v, p, e, r | .bl _, v, p, e, r | .int _, v, p, e, r | .str _, v, p, e, r | .tup _, v, p, e, r | .ctup _, v, p, e, r | .ins _ _, v, p, e, r | .obj _, v, p, e, r => D.py_dp (S := S) (ob := ob) _ v p e r
  | .dK _, v, p, e, r | .dT _, v, p, e, r => by cases e
theorem eqS_ok {W : Wd} {H : Hp} {S : Addr → Prop} {ob : Nat → Option Addr} {x y : D} {v w : V} {b : Bool} (p : RepU W H S ob x v) (q : RepU W H S ob y w) (e : gEqS x y = some b) : scal v w = true ∧ decide (v = w) = b := by
  unfold gEqS at e
  split at e
  · cases e
    rw [show v = .int _ from p, show w = .int _ from q]
    exact ⟨rfl, by simp⟩
  · cases e
    rw [show v = .str _ from p, show w = .str _ from q]
    exact ⟨rfl, by simp⟩
  · cases e
    rw [show v = .bl _ from p, show w = .bl _ from q]
    exact ⟨rfl, by simp⟩
  · cases e
    rw [show v = .non from p, show w = .non from q]
    exact ⟨rfl, by simp⟩
  · cases e
    rw [show v = .non from p, show w = .int _ from q]
    exact ⟨rfl, by simp⟩
  · cases e
    rw [show v = .int _ from p, show w = .non from q]
    exact ⟨rfl, by simp⟩
  · cases e
    rw [show v = .non from p, show w = .str _ from q]
    exact ⟨rfl, by simp⟩
  · cases e
    rw [show v = .str _ from p, show w = .non from q]
    exact ⟨rfl, by simp⟩
  · cases e
    rw [show v = .int _ from p, show w = .str _ from q]
    exact ⟨rfl, by simp⟩
  · cases e
    rw [show v = .str _ from p, show w = .int _ from q]
    exact ⟨rfl, by simp⟩
  · cases e
theorem eqD_ok {W : Wd} {H : Hp} {S : Addr → Prop} {ob : Nat → Option Addr} {x y : D} {v w : V} {b : Bool} (p : RepU W H S ob x v) (q : RepU W H S ob y w) (e : gEqD x y = some b) :
    ∃ d f, Dp W.K H v d ∧ Dp W.K H w f ∧ SeqAt.shaped d = true ∧ SeqAt.shaped f = true ∧ PyData.eqv d f = b := by
  unfold gEqD at e
  split at e
  · rename_i d f h1 h2
    split at e
    · rename_i h3
      rw [Bool.and_eq_true] at h3
      exact ⟨d, f, D.py_dpU x v d h1 p, D.py_dpU y w f h2 q, h3.1, h3.2, Option.some.inj e⟩
    · cases e
  · cases e
theorem eqL_ok {W : Wd} {H : Hp} {S : Addr → Prop} {ob : Nat → Option Addr} {x y : D} {v w : V} {b : Bool} (p : RepU W H S ob x v) (q : RepU W H S ob y w) (e : gEqL x y = some b) :
    ∃ a c vs, v = .ref a ∧ w = .ref c ∧ H a = some (.lst vs) ∧ H c = some (.lst []) ∧ vs.isEmpty = b := by
  unfold gEqL at e
  split at e
  · cases e
    obtain ⟨a, vs, e1, h1, r1⟩ := p
    obtain ⟨c, ws, e2, h2, r2⟩ := q
    have z : ws = [] := r2
    subst z
    refine ⟨a, c, vs, e1, e2, h1, h2, ?_⟩
    have := r1.len
    rename_i xs
    cases vs with
    | nil => cases xs with
      | nil => rfl
      | cons _ _ => simp at this
    | cons _ _ => cases xs with
      | nil => simp at this
      | cons _ _ => rfl
  · cases e
theorem lf_eq {W : Wd} : LfOp W gEq (rEq3 W.K) := by
  intro Wx L B σ H Q x y v w al p q l
  unfold gEq at l
  split at l
  · rename_i b e
    obtain ⟨h1, h2⟩ := eqS_ok p q e
    exact .inl ⟨h1, by rw [h2]; exact l.ret rfl⟩
  · split at l
    · rename_i b e
      obtain ⟨a, c, vs, e1, e2, h1, h2, h3⟩ := eqL_ok p q e
      exact .inr (.inl ⟨a, c, vs, e1, e2, h1, h2, by rw [h3]; exact l.ret rfl⟩)
    · split at l
      · rename_i b e
        obtain ⟨d, f, d1, d2, s1, s2, h⟩ := eqD_ok p q e
        exact .inr (.inr ⟨d, f, d1, d2, s1, s2, by rw [h]; exact l.ret rfl⟩)
      · exact l.elim
theorem lf_ne {W : Wd} : LfOp W gNe (rNe3 W.K) := by
  intro Wx L B σ H Q x y v w al p q l
  unfold gNe at l
  split at l
  · rename_i b e
    obtain ⟨h1, h2⟩ := eqS_ok p q e
    exact .inl ⟨h1, by rw [h2]; exact l.ret rfl⟩
  · split at l
    · rename_i b e
      obtain ⟨d, f, d1, d2, s1, s2, h⟩ := eqD_ok p q e
      exact .inr ⟨d, f, d1, d2, s1, s2, by rw [h]; exact l.ret rfl⟩
    · exact l.elim

/-! ### in -/
def D.flatK : D → Option Key
  | .int i => some (.inl i)
  | .str s => some (.inr s)
  | _ => none
def D.flatKs : List D → Option (List Key)
  | [] => some []
  | d :: r => match D.flatK d, D.flatKs r with
    | some x, some y => some (x :: y)
    | _, _ => none
theorem flatK_ok {W : Wd} {H : Hp} {S : Addr → Prop} {ob : Nat → Option Addr} : ∀ {d : D} {v : V} {k : Key}, D.flatK d = some k → RepU W H S ob d v → v = kV k
  | .int i, v, k, e, r => by cases e; exact r
  | .str i, v, k, e, r => by cases e; exact r
  | .non, _, _, e, _ | .bl _, _, _, e, _ | .lst _, _, _, e, _ | .tup _, _, _, e, _ | .ctup _, _, _, e, _ | .dK _, _, _, e, _ | .dT _, _, _, e, _ | .ins _ _, _, _, e, _ | .obj _, _, _, e, _ => by cases e
theorem flatKs_ok {W : Wd} {H : Hp} {S : Addr → Prop} {ob : Nat → Option Addr} : ∀ {d : List D} {v : List V} {k : List Key}, D.flatKs d = some k → Reps W H S ob d v → v = k.map kV
  | [], v, k, e, r => by cases e; exact r
  | d :: ds, v, k, e, r => by
    obtain ⟨x, t, e1, r1, r2⟩ := r
    have e : (match D.flatK d, D.flatKs ds with
      | some x, some y => some (x :: y)
      | _, _ => none) = some k := e
    split at e
    · rename_i a b z1 z2
      cases e
      rw [e1, flatK_ok z1 r1.u, flatKs_ok z2 r2]
      rfl
    · cases e
/-- a dict's look-up by value -/
def kget {κ : Type} [DecidableEq κ] : List (κ × D) → κ → Option D
  | [], _ => none
  | p :: r, k => if p.1 = k then some p.2 else kget r k
/-- both there, or neither -/
def OptR (W : Wd) (H : Hp) (S : Addr → Prop) (ob : Nat → Option Addr) : Option D → Option V → Prop
  | some d, o => ∃ v, o = some v ∧ Rep W H S ob d v
  | none, o => o = none
theorem repK_get {W : Wd} {H : Hp} {S : Addr → Prop} {ob : Nat → Option Addr} (k : Key) : ∀ {kvs : List (Key × D)} {vs : List (Key × V)}, RepK W H S ob kvs vs →
    OptR W H S ob (kget kvs k) (valV vs k)
  | [], _, h => by rw [show _ = [] from h]; rfl
  | (x, d) :: r, _, h => by
    obtain ⟨v, t, rfl, p, q⟩ := h
    by_cases e : x = k
    · rw [show kget ((x, d) :: r) k = some d by show (if x = k then _ else _) = _; rw [if_pos e], valV_pos e]
      exact ⟨v, rfl, p⟩
    · rw [show kget ((x, d) :: r) k = kget r k by show (if x = k then _ else _) = _; rw [if_neg e]]
      have ih := repK_get k q
      rw [valV_neg e]
      exact ih
theorem repT_get {W : Wd} {H : Hp} {S : Addr → Prop} {ob : Nat → Option Addr} (k : List Key) : ∀ {kvs : List (List Key × D)} {vs : List (List Key × V)}, RepT W H S ob kvs vs →
    OptR W H S ob (kget kvs k) (valV vs k)
  | [], _, h => by rw [show _ = [] from h]; rfl
  | (x, d) :: r, _, h => by
    obtain ⟨v, t, rfl, p, q⟩ := h
    by_cases e : x = k
    · rw [show kget ((x, d) :: r) k = some d by show (if x = k then _ else _) = _; rw [if_pos e], valV_pos e]
      exact ⟨v, rfl, p⟩
    · rw [show kget ((x, d) :: r) k = kget r k by show (if x = k then _ else _) = _; rw [if_neg e]]
      have ih := repT_get k q
      rw [valV_neg e]
      exact ih
/-- what a dict holds: outer none: it is not asked so -/
def dget : D → D → Option (Option D)
  | .dK kvs, y => (D.flatK y).map (kget kvs ·)
  | .dT kvs, .tup ks => (D.flatKs ks).map (kget kvs ·)
  | _, _ => none
theorem dget_ok {W : Wd} {H : Hp} {S S' : Addr → Prop} {ob : Nat → Option Addr} {x y : D} {v w : V} {o : Option D} (p : RepU W H S ob x v) (q : RepU W H S' ob y w) (e : dget x y = some o) :
    ∃ a z, v = .ref a ∧ DGet H a w z ∧ OptR W H S ob o z := by
  unfold dget at e
  split at e
  · rename_i kvs
    obtain ⟨a, vs, e1, h1, r1⟩ := p
    cases z : D.flatK y with
    | none => rw [z] at e; cases e
    | some k =>
      rw [z] at e
      have e : kget kvs k = o := Option.some.inj e
      have g := repK_get k r1
      refine ⟨a, valV vs k, e1, .inl ⟨vs, k, h1, flatK_ok z q, rfl⟩, ?_⟩
      rw [e] at g
      exact g
  · rename_i kvs ks
    obtain ⟨a, vs, e1, h1, r1⟩ := p
    obtain ⟨b, us, e2, h2, r2⟩ := q
    cases z : D.flatKs ks with
    | none => rw [z] at e; cases e
    | some k =>
      rw [z] at e
      have e : kget kvs k = o := Option.some.inj e
      have g := repT_get k r1
      refine ⟨a, valV vs k, e1, .inr ⟨vs, k, b, h1, e2, by rw [h2, flatKs_ok z r2], rfl⟩, ?_⟩
      rw [e] at g
      exact g
  · cases e
/-- == of flat data, as in «in» -/
def eqF : D → D → Option Bool
  | .int a, .int b => some (decide (a = b))
  | .str a, .str b => some (decide (a = b))
  | .bl a, .bl b => some (decide (a = b))
  | .non, .non => some true
  | .int _, .str _ => some false
  | .str _, .int _ => some false
  | .non, .int _ => some false
  | .non, .str _ => some false
  | .int _, .non => some false
  | .str _, .non => some false
  | _, _ => none
theorem eqF_ok {W : Wd} {H : Hp} {S S' : Addr → Prop} {ob : Nat → Option Addr} {x y : D} {v w : V} {b : Bool} (p : RepU W H S ob x v) (q : RepU W H S' ob y w) (e : eqF x y = some b) : flatV v = true ∧ flatV w = true ∧ eqV v w = b := by
  unfold eqF at e
  split at e <;> cases e
  · rw [show v = .int _ from p, show w = .int _ from q]; exact ⟨rfl, rfl, by simp [eqV, Bool.beq_eq_decide_eq]⟩
  · rw [show v = .str _ from p, show w = .str _ from q]; exact ⟨rfl, rfl, by simp [eqV, Bool.beq_eq_decide_eq]⟩
  · rw [show v = .bl _ from p, show w = .bl _ from q]; exact ⟨rfl, rfl, by simp [eqV, Bool.beq_eq_decide_eq]⟩
  · rw [show v = .non from p, show w = .non from q]; exact ⟨rfl, rfl, rfl⟩
  · rw [show v = .int _ from p, show w = .str _ from q]; exact ⟨rfl, rfl, rfl⟩
  · rw [show v = .str _ from p, show w = .int _ from q]; exact ⟨rfl, rfl, rfl⟩
  · rw [show v = .non from p, show w = .int _ from q]; exact ⟨rfl, rfl, rfl⟩
  · rw [show v = .non from p, show w = .str _ from q]; exact ⟨rfl, rfl, rfl⟩
  · rw [show v = .int _ from p, show w = .non from q]; exact ⟨rfl, rfl, rfl⟩
  · rw [show v = .str _ from p, show w = .non from q]; exact ⟨rfl, rfl, rfl⟩
def inF (x : D) : List D → Option Bool
  | [] => if D.flat x then some false else none
  | y :: r => match eqF y x, inF x r with
    | some a, some b => some (a || b)
    | _, _ => none
theorem inF_ok {W : Wd} {H : Hp} {S S' : Addr → Prop} {ob : Nat → Option Addr} {x : D} {v : V} (p : RepU W H S ob x v) : ∀ {ys : List D} {ws : List V} {b : Bool}, Reps W H S' ob ys ws → inF x ys = some b → flatV v = true ∧ ws.all flatV = true ∧ inV v ws = b
  | [], _, b, h, e => by
    rw [show _ = [] from h]
    unfold inF at e
    split at e
    · rename_i f
      cases e
      refine ⟨?_, rfl, rfl⟩
      cases x with
      | non => rw [show v = .non from p]; rfl
      | bl _ => rw [show v = .bl _ from p]; rfl
      | int _ => rw [show v = .int _ from p]; rfl
      | str _ => rw [show v = .str _ from p]; rfl
      | _ => cases f
    · cases e
  | y :: r, _, b, h, e => by
    obtain ⟨w, t, rfl, q, q2⟩ := h
    have e : (match eqF y x, inF x r with
      | some a, some b => some (a || b)
      | _, _ => none) = some b := e
    split at e
    · rename_i a b' e1 e2
      cases e
      obtain ⟨f1, f2, f3⟩ := eqF_ok q.u p e1
      obtain ⟨g1, g2, g3⟩ := inF_ok p q2 e2
      refine ⟨f2, ?_, ?_⟩
      · rw [List.all_cons, f1, g2]; rfl
      · unfold inV at g3 ⊢
        rw [List.any_cons, f3, g3]
    · cases e
def sgn (x y : Str) : Option Bool := if x.length = 1 then some (decide (x.cps.getD 0 0 ∈ y.cps.toList)) else none
def gInO (x y : D) : Option Bool := match y with
  | .lst ys => inF x ys
  | .tup ys => inF x ys
  | .ctup ys => inF x ys
  | .str s => (match x with
    | .str c => sgn c s
    | _ => none)
  | _ => (dget y x).map (·.isSome)
def gIn (x y : D) : Res D := match gInO x y with
  | some b => .ok (.bl b)
  | none => .stuck
def gNotIn (x y : D) : Res D := match gInO x y with
  | some b => .ok (.bl (!b))
  | none => .stuck
abbrev rDIn : R2 := fun y x H Q => ∃ a o, x = .ref a ∧ DGet H a y o ∧ Q (.bl o.isSome) H
abbrev rDNotIn : R2 := fun y x H Q => ∃ a o, x = .ref a ∧ DGet H a y o ∧ Q (.bl (!o.isSome)) H
theorem op_din {X : Cx} (hu : X.A.units + 64 < cLine) : OpR X (compareOp .In) rDIn := by
  intro pins s σ H x y v u Q I rx ry h
  obtain ⟨a, o, rfl, g, q⟩ := h
  cases ry
  exact d_in (by omega) I g rx fun s3 I3 => ⟨.bl o.isSome, H, I3, rfl, q⟩
theorem op_dnotin {X : Cx} (hu : X.A.units + 64 < cLine) : OpR X (compareOp .NotIn) rDNotIn := by
  intro pins s σ H x y v u Q I rx ry h
  obtain ⟨a, o, rfl, g, q⟩ := h
  cases ry
  exact d_notIn (by omega) I g rx fun s3 I3 => ⟨.bl (!o.isSome), H, I3, rfl, q⟩
end DL
namespace DL
open PySem PySem.Spec PyProof.Rows L2

abbrev rIn3 (K : PySem.W.Frag) : R2 := fun x y H Q => rIn K false x y H Q ∨ (rDIn x y H Q ∨ ∃ c z, x = .str ⟨#[c]⟩ ∧ y = .str z ∧ Q (.bl (decide (c ∈ z.cps.toList))) H)
abbrev rNIn3 (K : PySem.W.Frag) : R2 := fun x y H Q => rIn K true x y H Q ∨ (rDNotIn x y H Q ∨ ∃ c z, x = .str ⟨#[c]⟩ ∧ y = .str z ∧ Q (.bl (!decide (c ∈ z.cps.toList))) H)
theorem op_in3 {X : Cx} (hu : X.A.units + 64 < cLine) : OpR X (compareOp .In) (rIn3 X.K) := op_in_seq.or ((op_din hu).or op_in_sign)
theorem op_nin3 {X : Cx} (hu : X.A.units + 64 < cLine) : OpR X (compareOp .NotIn) (rNIn3 X.K) := op_notIn_seq.or ((op_dnotin hu).or op_notIn_sign)
theorem sgn_ok {x y : Str} {b : Bool} (e : sgn x y = some b) : ∃ c, x = ⟨#[c]⟩ ∧ decide (c ∈ y.cps.toList) = b := by
  unfold sgn at e
  split at e
  · rename_i h
    obtain ⟨cps⟩ := x
    have h1 : cps.size = 1 := h
    refine ⟨cps[0], ?_, ?_⟩
    · congr 1
      apply Array.ext
      · simp [h1]
      · intro i hi1 hi2
        have : i = 0 := by omega
        subst this
        simp
    · have e := Option.some.inj e
      rw [← e]
      have : (cps.getD 0 0) = cps[0] := by simp [Array.getD, h1]
      simp [this]
  · cases e
/-- what «in» gives -/
theorem in_ok {W : Wd} {H : Hp} {S S' : Addr → Prop} {ob : Nat → Option Addr} {x y : D} {v w : V} {b : Bool} (p : RepU W H S ob x v) (q : RepU W H S' ob y w) (e : gInO x y = some b) :
    (∃ a xs, w = .ref a ∧ (SqL W.K H a xs ∨ SqT W.K H a xs) ∧ flatV v = true ∧ xs.all flatV = true ∧ inV v xs = b) ∨ (∃ a o, w = .ref a ∧ DGet H a v o ∧ o.isSome = b) ∨ ∃ c z, v = .str ⟨#[c]⟩ ∧ w = .str z ∧ decide (c ∈ z.cps.toList) = b := by
  unfold gInO at e
  split at e
  · obtain ⟨a, vs, e1, h1, r1⟩ := q
    obtain ⟨f1, f2, f3⟩ := inF_ok p r1 e
    exact .inl ⟨a, vs, e1, .inl (.of h1), f1, f2, f3⟩
  · obtain ⟨a, vs, e1, h1, r1⟩ := q
    obtain ⟨f1, f2, f3⟩ := inF_ok p r1 e
    exact .inl ⟨a, vs, e1, .inr (.of h1), f1, f2, f3⟩
  · obtain ⟨a, vs, e1, h1, r1⟩ := q
    obtain ⟨f1, f2, f3⟩ := inF_ok p r1 e
    exact .inl ⟨a, vs, e1, .inr (.inr h1), f1, f2, f3⟩
  · split at e
    · obtain ⟨c, e1, e2⟩ := sgn_ok e
      exact .inr (.inr ⟨c, _, by rw [show v = .str _ from p, e1], q, e2⟩)
    · cases e
  · cases z : dget y x with
    | none => rw [z] at e; cases e
    | some o =>
      rw [z] at e
      have e : o.isSome = b := Option.some.inj e
      obtain ⟨a, u, e1, g, h⟩ := dget_ok q p z
      refine .inr (.inl ⟨a, u, e1, g, ?_⟩)
      rw [← e]
      cases o with
      | none => rw [show u = none from h]; rfl
      | some d => obtain ⟨t, e2, _⟩ := h; rw [e2]; rfl
theorem lf_in {W : Wd} : LfOp W gIn (rIn3 W.K) := by
  intro Wx L B σ H Q x y v w al p q l
  unfold gIn at l
  split at l
  · rename_i b e
    rcases in_ok p q e with ⟨a, xs, e1, h1, f1, f2, f3⟩ | ⟨a, o, e1, g, e2⟩ | ⟨c, z, e1, e2, e3⟩
    · refine .inl ⟨a, xs, e1, h1, f1, f2, ?_⟩
      rw [if_neg (by decide), f3]
      exact l.ret rfl
    · exact .inr (.inl ⟨a, o, e1, g, by rw [e2]; exact l.ret rfl⟩)
    · exact .inr (.inr ⟨c, z, e1, e2, by rw [e3]; exact l.ret rfl⟩)
  · exact l.elim
theorem lf_nin {W : Wd} : LfOp W gNotIn (rNIn3 W.K) := by
  intro Wx L B σ H Q x y v w al p q l
  unfold gNotIn at l
  split at l
  · rename_i b e
    rcases in_ok p q e with ⟨a, xs, e1, h1, f1, f2, f3⟩ | ⟨a, o, e1, g, e2⟩ | ⟨c, z, e1, e2, e3⟩
    · refine .inl ⟨a, xs, e1, h1, f1, f2, ?_⟩
      rw [if_pos rfl, f3]
      exact l.ret rfl
    · exact .inr (.inl ⟨a, o, e1, g, by rw [e2]; exact l.ret rfl⟩)
    · exact .inr (.inr ⟨c, z, e1, e2, by rw [e3]; exact l.ret rfl⟩)
  · exact l.elim
@[simp] def gIs (x y : D) : Res D := match x, y with
  | .non, .non => .ok (.bl true)
  | _, .non => .ok (.bl false)
  | _, _ => .stuck
@[simp] def gIsNot (x y : D) : Res D := match x, y with
  | .non, .non => .ok (.bl false)
  | _, .non => .ok (.bl true)
  | _, _ => .stuck
theorem rep_ne_non {W : Wd} {H : Hp} {S : Addr → Prop} {ob : Nat → Option Addr} : ∀ {x : D} {v : V}, x ≠ .non → RepU W H S ob x v → v ≠ .non
  | .non, v, h, r => absurd rfl h
  | .bl _, v, h, r => by rw [show v = .bl _ from r]; intro z; cases z
  | .int _, v, h, r => by rw [show v = .int _ from r]; intro z; cases z
  | .str _, v, h, r => by rw [show v = .str _ from r]; intro z; cases z
  | .lst _, v, h, r => by obtain ⟨a, vs, e, _⟩ := r; rw [e]; intro z; cases z
  | .tup _, v, h, r => by obtain ⟨a, vs, e, _⟩ := r; rw [e]; intro z; cases z
  | .ctup _, v, h, r => by obtain ⟨a, vs, e, _⟩ := r; rw [e]; intro z; cases z
  | .dK _, v, h, r => by obtain ⟨a, vs, e, _⟩ := r; rw [e]; intro z; cases z
  | .dT _, v, h, r => by obtain ⟨a, vs, e, _⟩ := r; rw [e]; intro z; cases z
  | .ins _ _, v, h, r => by obtain ⟨a, C, dx, fv, e, _⟩ := r; rw [e]; intro z; cases z
  | .obj _, v, h, r => by obtain ⟨a, _, e⟩ := r; rw [e]; intro z; cases z
theorem lf_is {W : Wd} : LfOp W gIs (fun x y H Q => y = .non ∧ Q (.bl (decide (x = .non))) H) := by
  intro Wx L B σ H Q x y v w al p q l
  unfold gIs at l
  split at l
  · refine ⟨q, ?_⟩
    rw [show v = .non from p]
    exact l.ret rfl
  · rename_i h
    refine ⟨q, ?_⟩
    rw [decide_eq_false (rep_ne_non (fun z => h z) p)]
    exact l.ret rfl
  · exact l.elim
theorem lf_isnot {W : Wd} : LfOp W gIsNot (fun x y H Q => y = .non ∧ Q (.bl (!decide (x = .non))) H) := by
  intro Wx L B σ H Q x y v w al p q l
  unfold gIsNot at l
  split at l
  · refine ⟨q, ?_⟩
    rw [show v = .non from p]
    exact l.ret rfl
  · rename_i h
    refine ⟨q, ?_⟩
    rw [decide_eq_false (rep_ne_non (fun z => h z) p)]
    exact l.ret rfl
  · exact l.elim

/-! ### subscripts -/
def dat (xs : List D) (i : Int) : Option D := atI xs i
theorem dat_ok {W : Wd} {H : Hp} {S : Addr → Prop} {ob : Nat → Option Addr} {xs : List D} {vs : List V} {i : Int} {d : D} (r : Reps W H S ob xs vs) (e : dat xs i = some d) : ∃ v, atI vs i = some v ∧ Rep W H S ob d v := by
  unfold dat atI at e
  unfold atI
  rw [r.len]
  cases z : ixN xs.length i with
  | none => rw [z] at e; cases e
  | some j =>
    rw [z] at e
    exact r.get e
noncomputable def gIx (x y : D) : Res D := match x, y with
  | .lst xs, .int i => (match dat xs i with
    | some d => .ok d
    | none => .stuck)
  | .tup xs, .int i => (match dat xs i with
    | some d => .ok d
    | none => .stuck)
  | .ctup xs, .int i => (match dat xs i with
    | some d => .ok d
    | none => .stuck)
  | .str s, .int i => @ite _ (s.length ≤ 16777216) (Classical.propDecidable _) (match atI s.cps.toList i with
    | some c => .ok (.str ⟨#[c]⟩)
    | none => .stuck) .stuck
  | x, y => (match dget x y with
    | some (some d) => .ok d
    | _ => .stuck)
abbrev rDGetV : R2 := fun x y H Q => ∃ a v, x = .ref a ∧ DGet H a y (some v) ∧ Q v H
theorem ix_dict {X : Cx} (hu : X.A.units + 64 < cLine) : IxR X rDGetV := by
  intro value slice pins s σ H x y v u Q I rx ry h hs
  obtain ⟨a, z, rfl, g, q⟩ := h
  cases rx
  exact tail_any (dict_typeIs I g) PySem.F.slot_dict_getitem.lookup (d_getItem (by omega) I g ry fun w' s3 I3 rw' => ⟨z, H, I3, rw', q⟩) hs
abbrev rIx4 (K : PySem.W.Frag) : R2 := fun x y H Q => rIx K x y H Q ∨ rDGetV x y H Q
theorem ix_any {X : Cx} (hu : X.A.units + 64 < cLine) : IxR X (rIx4 X.K) := ix_seq.or (ix_dict hu)
theorem lf_ix {W : Wd} : LfOp W gIx (rIx4 W.K) := by
  intro Wx L B σ H Q x y v w al p q l
  unfold gIx at l
  split at l
  · split at l
    · rename_i d e
      obtain ⟨a, vs, e1, h1, r1⟩ := p
      obtain ⟨u, e2, r2⟩ := dat_ok r1 e
      exact .inl (.inl ⟨a, vs, _, u, e1, q, .of h1, e2, l.ret r2⟩)
    · exact l.elim
  · split at l
    · rename_i d e
      obtain ⟨a, vs, e1, h1, r1⟩ := p
      obtain ⟨u, e2, r2⟩ := dat_ok r1 e
      exact .inl (.inr (.inl ⟨a, vs, _, u, e1, q, .of h1, e2, l.ret r2⟩))
    · exact l.elim
  · split at l
    · rename_i d e
      obtain ⟨a, vs, e1, h1, r1⟩ := p
      obtain ⟨u, e2, r2⟩ := dat_ok r1 e
      exact .inl (.inr (.inl ⟨a, vs, _, u, e1, q, .inr h1, e2, l.ret r2⟩))
    · exact l.elim
  · split at l
    · split at l
      · rename_i h _ c e
        exact .inl (.inr (.inr ⟨_, _, c, p, q, by rw [sizeLine_eq]; exact h, e, l.ret rfl⟩))
      · exact l.elim
    · exact l.elim
  · split at l
    · rename_i d e
      obtain ⟨a, z, e1, g, o⟩ := dget_ok p q e
      obtain ⟨u, e2, r⟩ := o
      subst e2
      exact .inr ⟨a, u, e1, g, l.ret r⟩
    · exact l.elim
section
variable {X : Cx} {Wx : WX} {pos : Pos} {a b : Expr} {Ba Bb : List Nat} {ma mb : M}
theorem d_ix (hu : X.A.units + 64 < cLine) (ha : DU X Wx Ba a ma) (hb : DU X Wx Bb b mb) (hs : PlainIx b := by exact fun _ _ => rfl) : DP X Wx (Ba ++ Bb) (.Subscript a b pos) (m2 ma mb gIx) :=
  ⟨PE.weak (pe_ix (ix_any hu) ha.pe hb.pe hs) fun σ H Q ⟨F, ρ, ω, L, R, h⟩ => part2 subl subr R h fun v w H1 x y s R1 p q l => lf_ix Wx L _ σ H1 Q x y v w R1.al p q l⟩
end
/-! ### slices -/
def cutD {α : Type} (xs : List α) (lo hi : Option Int) : List α := (xs.drop (HT.sIx xs.length 0 lo)).take (HT.sIx xs.length xs.length hi - HT.sIx xs.length 0 lo)
theorem cut_reps {W : Wd} {H : Hp} {S : Addr → Prop} {ob : Nat → Option Addr} {xs : List D} {vs : List V} (r : Reps W H S ob xs vs) (lo hi : Option Int) : Reps W H S ob (cutD xs lo hi) (cutV vs lo hi) := by
  unfold cutD cutV
  rw [r.len]
  exact (r.drop _).take _
noncomputable def gSl (x : D) (lo hi : Option Int) : Res D := match x with
  | .lst xs => .ok (.lst (cutD xs lo hi))
  | .tup xs => if HT.sIx xs.length 0 lo = 0 ∧ HT.sIx xs.length xs.length hi = xs.length then .stuck else .ok (.tup (cutD xs lo hi))
  | .str s => @ite _ (s.length ≤ 16777216) (Classical.propDecidable _) (.ok (.str (cutS s lo hi))) .stuck
  | _ => .stuck
abbrev rSl3 (K : PySem.W.Frag) : V → Option Int → Option Int → Hp → VK → Prop := fun x lo hi H Q => rSlL K x lo hi H Q ∨ (rSlT K x lo hi H Q ∨ rSlS x lo hi H Q)
theorem sl_any {X : Cx} : SlR X (rSl3 X.K) := sl_list.or (sl_tup.or sl_str)
theorem lf_sl {W : Wd} {Wx : WX} {L : Lc} {B : List Nat} {σ : L2.St} {H : Hp} {Q : VK} {x : D} {v : V} {lo hi : Option Int} (al : Al L H) (p : RepU W H (Fr L B) (obs L) x v) (l : Leaf W Wx L B σ H Q (gSl x lo hi)) : rSl3 W.K v lo hi H Q := by
  unfold gSl at l
  split at l
  · obtain ⟨a, vs, e1, h1, r1⟩ := p
    refine .inl ⟨a, vs, e1, .of h1, fun z hz => ?_⟩
    have sm := same_upd (o := .lst (cutV vs lo hi)) hz
    exact l.ret' sm ⟨z, _, rfl, al.fr hz B, upd_same, cut_reps (r1.same sm) lo hi⟩
  · split at l
    · exact l.elim
    · rename_i h
      obtain ⟨a, vs, e1, h1, r1⟩ := p
      refine .inr (.inl ⟨a, vs, e1, .of h1, by rw [r1.len]; exact h, fun z hz => ?_⟩)
      have sm := same_upd (o := .tup (cutV vs lo hi)) hz
      exact l.ret' sm ⟨z, _, rfl, upd_same, cut_reps (r1.same sm) lo hi⟩
  · split at l
    · rename_i h
      exact .inr (.inr ⟨_, p, by rw [sizeLine_eq]; exact h, l.ret rfl⟩)
    · exact l.elim
  · exact l.elim
/-- an end of a slice -/
def tO (W : Wd) (Wx : WX) (m : Env' → Store → Res (Option Int)) : TO := fun σ H Q => ∃ F ρ ω L, Rel W F ρ ω L σ H ∧ (match m ρ ω with
    | .stuck => False
    | .ok o => ∀ H', Same H H' → Q o H'
    | .err e => ∀ cls dd H', Same H H' → Exc W H' e cls dd → Wx cls dd σ H')
structure DO (X : Cx) (Wx : WX) (e : Option Expr) (m : Env' → Store → Res (Option Int)) : Prop where
  po : PO X e (tO (wd X) Wx m)
@[simp] def oNone : Env' → Store → Res (Option Int) := fun _ _ => .ok none
@[simp] def oSome (ma : M) : Env' → Store → Res (Option Int) := fun ρ ω => (ma ρ ω).bind fun x => match x with
  | .int i => .ok (some i)
  | _ => .stuck
section
variable {X : Cx} {Wx : WX} {pos p2 : Pos} {a b : Expr} {Ba Bb : List Nat} {ma mb : M}
theorem o_none : DO X Wx none oNone := ⟨⟨fun pins s σ H Q I h => by
  obtain ⟨F, ρ, ω, L, R, q⟩ := h
  exact po_none.run pins s σ H Q I (q H (Same.refl H))⟩⟩
theorem o_some (ha : DU X Wx Ba a ma) : DO X Wx (some a) (oSome ma) := ⟨⟨fun pins s σ H Q I h => by
  obtain ⟨F, ρ, ω, L, R, q⟩ := h
  refine (po_some ha.pe).run pins s σ H Q I ?_
  refine ⟨F, ρ, ω, L, R, ?_⟩
  unfold oSome at q
  cases z : ma ρ ω with
  | stuck => rw [z] at q; exact q
  | err x => rw [z] at q; exact q
  | ok x =>
    rw [z] at q
    cases x with
    | int i => exact fun v H' s r => ⟨i, r, q H' s⟩
    | _ => exact q.elim⟩⟩
@[simp] noncomputable def mSl (ma : M) (lo hi : Env' → Store → Res (Option Int)) : M := fun ρ ω => (ma ρ ω).bind fun x => (lo ρ ω).bind fun l => (hi ρ ω).bind fun h => gSl x l h
theorem d_slice {lo hi : Option Expr} {ml mh : Env' → Store → Res (Option Int)} (ha : DU X Wx Ba a ma) (hl : DO X Wx lo ml) (hh : DO X Wx hi mh) : DP X Wx Ba (.Subscript a (.Slice lo hi none p2) pos) (mSl ma ml mh) := by
  refine ⟨PE.weak (pe_slice sl_any ha.pe hl.po hh.po) fun σ H Q ⟨F, ρ, ω, L, R, h⟩ => ?_⟩
  refine part1 (k := fun x => (ml ρ ω).bind fun l => (mh ρ ω).bind fun h => gSl x l h) subid R h fun v H1 x s R1 p l => ?_
  refine ⟨F, ρ, ω, L, R1, ?_⟩
  cases z1 : ml ρ ω with
  | stuck => rw [z1] at l; exact l
  | err x => rw [z1] at l; exact l
  | ok o1 =>
    rw [z1] at l
    intro H2 s2
    refine ⟨F, ρ, ω, L, R1.same s2, ?_⟩
    cases z2 : mh ρ ω with
    | stuck => rw [z2] at l; exact l
    | err x => rw [z2] at l; exact fun c d H' s h => l c d H' (s2.trans s) h
    | ok o2 =>
      rw [z2] at l
      intro H3 s3
      exact lf_sl (R1.al.same (s2.trans s3)) (p.same (s2.trans s3)) (l.to (s2.trans s3) subid fun _ _ q => q)
end
end DL
namespace DL
open PySem PySem.Spec PyProof.Rows L2

/-! ### comparisons as values and as tests -/
section
variable {X : Cx} {Wx : WX} {pos : Pos} {a b c : Expr} {Ba Bb Bc : List Nat} {ma mb mc : M}
theorem d_lt (ha : DU X Wx Ba a ma) (hb : DU X Wx Bb b mb) : DP X Wx (Ba ++ Bb) (.Compare a [.Lt] [b] pos) (m2 ma mb gLt) := d_cmp op_lt lf_int (nomark _) ha hb
theorem d_le (ha : DU X Wx Ba a ma) (hb : DU X Wx Bb b mb) : DP X Wx (Ba ++ Bb) (.Compare a [.LtE] [b] pos) (m2 ma mb gLe) := d_cmp op_le lf_int (nomark _) ha hb
theorem d_gt (ha : DU X Wx Ba a ma) (hb : DU X Wx Bb b mb) : DP X Wx (Ba ++ Bb) (.Compare a [.Gt] [b] pos) (m2 ma mb gGt) := d_cmp op_gt lf_int (nomark _) ha hb
theorem d_ge (ha : DU X Wx Ba a ma) (hb : DU X Wx Bb b mb) : DP X Wx (Ba ++ Bb) (.Compare a [.GtE] [b] pos) (m2 ma mb gGe) := d_cmp op_ge lf_int (nomark _) ha hb
theorem d_eq (hu : X.A.units + 64 < cLine) (ha : DU X Wx Ba a ma) (hb : DU X Wx Bb b mb) : DP X Wx (Ba ++ Bb) (.Compare a [.Eq] [b] pos) (m2 ma mb gEq) := d_cmp (op_eq3 hu) lf_eq (nomark _) ha hb
theorem d_ne (hu : X.A.units + 64 < cLine) (ha : DU X Wx Ba a ma) (hb : DU X Wx Bb b mb) : DP X Wx (Ba ++ Bb) (.Compare a [.NotEq] [b] pos) (m2 ma mb gNe) := d_cmp (op_ne3 hu) lf_ne (nomark _) ha hb
theorem d_in (hu : X.A.units + 64 < cLine) (ha : DU X Wx Ba a ma) (hb : DU X Wx Bb b mb) (hm : behindInMarks .In b = false := by rfl) : DP X Wx (Ba ++ Bb) (.Compare a [.In] [b] pos) (m2 ma mb gIn) := d_cmp (op_in3 hu) lf_in hm ha hb
theorem d_nin (hu : X.A.units + 64 < cLine) (ha : DU X Wx Ba a ma) (hb : DU X Wx Bb b mb) (hm : behindInMarks .NotIn b = false := by rfl) : DP X Wx (Ba ++ Bb) (.Compare a [.NotIn] [b] pos) (m2 ma mb gNotIn) := d_cmp (op_nin3 hu) lf_nin hm ha hb
theorem d_is (ha : DU X Wx Ba a ma) (hb : DU X Wx Bb b mb) : DP X Wx (Ba ++ Bb) (.Compare a [.Is] [b] pos) (m2 ma mb gIs) := d_cmp op_isN lf_is (nomark _) ha hb
theorem d_isnot (ha : DU X Wx Ba a ma) (hb : DU X Wx Bb b mb) : DP X Wx (Ba ++ Bb) (.Compare a [.IsNot] [b] pos) (m2 ma mb gIsNot) := d_cmp op_notN lf_isnot (nomark _) ha hb
theorem t_lt (ha : DU X Wx Ba a ma) (hb : DU X Wx Bb b mb) : DB X Wx (.Compare a [.Lt] [b] pos) (b2 ma mb gLt) := t_cmp op_lt lf_int (nomark _) ha hb
theorem t_le (ha : DU X Wx Ba a ma) (hb : DU X Wx Bb b mb) : DB X Wx (.Compare a [.LtE] [b] pos) (b2 ma mb gLe) := t_cmp op_le lf_int (nomark _) ha hb
theorem t_gt (ha : DU X Wx Ba a ma) (hb : DU X Wx Bb b mb) : DB X Wx (.Compare a [.Gt] [b] pos) (b2 ma mb gGt) := t_cmp op_gt lf_int (nomark _) ha hb
theorem t_ge (ha : DU X Wx Ba a ma) (hb : DU X Wx Bb b mb) : DB X Wx (.Compare a [.GtE] [b] pos) (b2 ma mb gGe) := t_cmp op_ge lf_int (nomark _) ha hb
theorem t_eq (hu : X.A.units + 64 < cLine) (ha : DU X Wx Ba a ma) (hb : DU X Wx Bb b mb) : DB X Wx (.Compare a [.Eq] [b] pos) (b2 ma mb gEq) := t_cmp (op_eq3 hu) lf_eq (nomark _) ha hb
theorem t_ne (hu : X.A.units + 64 < cLine) (ha : DU X Wx Ba a ma) (hb : DU X Wx Bb b mb) : DB X Wx (.Compare a [.NotEq] [b] pos) (b2 ma mb gNe) := t_cmp (op_ne3 hu) lf_ne (nomark _) ha hb
theorem t_in (hu : X.A.units + 64 < cLine) (ha : DU X Wx Ba a ma) (hb : DU X Wx Bb b mb) (hm : behindInMarks .In b = false := by rfl) : DB X Wx (.Compare a [.In] [b] pos) (b2 ma mb gIn) := t_cmp (op_in3 hu) lf_in hm ha hb
theorem t_nin (hu : X.A.units + 64 < cLine) (ha : DU X Wx Ba a ma) (hb : DU X Wx Bb b mb) (hm : behindInMarks .NotIn b = false := by rfl) : DB X Wx (.Compare a [.NotIn] [b] pos) (b2 ma mb gNotIn) := t_cmp (op_nin3 hu) lf_nin hm ha hb
theorem t_is (ha : DU X Wx Ba a ma) (hb : DU X Wx Bb b mb) : DB X Wx (.Compare a [.Is] [b] pos) (b2 ma mb gIs) := t_cmp op_isN lf_is (nomark _) ha hb
theorem t_isnot (ha : DU X Wx Ba a ma) (hb : DU X Wx Bb b mb) : DB X Wx (.Compare a [.IsNot] [b] pos) (b2 ma mb gIsNot) := t_cmp op_notN lf_isnot (nomark _) ha hb
/-! a chain -/
@[simp] def mCh (ma mb mc : M) (g g' : D → D → Res D) : M := fun ρ ω => (ma ρ ω).bind fun x => (mb ρ ω).bind fun y => (g x y).bind fun z => match z with
  | .bl true => (mc ρ ω).bind fun w => g' y w
  | .bl false => .ok (.bl false)
  | _ => .stuck
theorem chain_read {σ : L2.St} {H : Hp} {Q : VK} {W : Wd} {g g' : D → D → Res D} {r r' : R2} (hl : LfOp W g r) (hl' : LfOp W g' r') {F : Fm} {ρ : Env'} {ω : Store} {L : Lc} (R : Rel W F ρ ω L σ H) (h : Leaf W Wx L (Ba ++ (Bb ++ Bc)) σ H Q (mCh ma mb mc g g' ρ ω)) :
    tChain r r' (tU W Wx Ba ma) (tU W Wx Bb mb) (tU W Wx Bc mc) σ H Q := by
  unfold tChain
  refine part1 (B := Ba ++ (Bb ++ Bc)) (k := fun x => (mb ρ ω).bind fun y => (g x y).bind fun z => match z with
    | .bl true => (mc ρ ω).bind fun w => g' y w
    | .bl false => .ok (.bl false)
    | _ => .stuck) subl R h fun v H1 x s1 R1 p l1 => ?_
  refine part1 (B := Ba ++ (Bb ++ Bc)) (fun i hi => subr i (subl i hi)) R1 l1 fun w H2 y s2 R2 q l2 => ?_
  refine hl Wx L (Ba ++ (Bb ++ Bc)) σ H2 _ x y v w R2.al (p.same s2) q ?_
  cases z : g x y with
  | stuck => rw [z] at l2; exact l2
  | err e => rw [z] at l2; exact l2
  | ok d =>
    rw [z] at l2
    intro u H3 s3 r3
    cases d with
    | bl k =>
      refine ⟨k, r3, ?_⟩
      cases k with
      | true =>
        rw [if_pos rfl]
        refine part1 (B := Ba ++ (Bb ++ Bc)) (fun i hi => subr i (subr i hi)) (R2.same s3) (l2.to s3 subid fun _ _ q => q) fun w' H4 y' s4 R4 q4 l4 => ?_
        exact hl' Wx L _ σ H4 Q y y' w w' R4.al ((q.same s3).same s4) q4 l4
      | false =>
        rw [if_neg (by decide)]
        exact l2 _ H3 s3 rfl
    | _ => exact l2.elim
theorem d_chain {op op' : CmpOp} {g g' : D → D → Res D} {r r' : R2} (ho : OpR X (compareOp op) r) (hl : LfOp (wd X) g r) (ho' : OpR X (compareOp op') r') (hl' : LfOp (wd X) g' r') (ha : DU X Wx Ba a ma) (hb : DU X Wx Bb b mb) (hc : DU X Wx Bc c mc) (hm : lastMarks [op, op'] [b, c] = false := by rfl) :
    DP X Wx (Ba ++ (Bb ++ Bc)) (.Compare a [op, op'] [b, c] pos) (mCh ma mb mc g g') :=
  ⟨PE.weak (pe_chain ho ho' ha.pe hb.pe hc.pe (hm := hm)) fun σ H Q ⟨F, ρ, ω, L, R, h⟩ => chain_read hl hl' R h⟩
theorem t_chain {op op' : CmpOp} {g g' : D → D → Res D} {r r' : R2} (ho : OpR X (compareOp op) r) (hl : LfOp (wd X) g r) (ho' : OpR X (compareOp op') r') (hl' : LfOp (wd X) g' r') (ha : DU X Wx Ba a ma) (hb : DU X Wx Bb b mb) (hc : DU X Wx Bc c mc) (hm : lastMarks [op, op'] [b, c] = false := by rfl) :
    DB X Wx (.Compare a [op, op'] [b, c] pos) (bV (mCh ma mb mc g g')) :=
  ⟨PT.weak (pt_chain ho ho' ha.pe hb.pe hc.pe (hm := hm)) fun σ H Q ⟨F, ρ, ω, L, R, h⟩ => chain_read (Q := fun x H' => ∃ k, x = .bl k ∧ Q k H') hl hl' R (leaf_b h)⟩

/-! ### and, or, not -/
structure DW (X : Cx) (Wx : WX) (e : Expr) (m : Env' → Store → Res Bool) : Prop where
  pw : PW X e (tT (wd X) Wx m)
theorem PW.weak {e : Expr} {t t' : TT} (h : PW X e t) (w : ∀ σ H Q, t' σ H Q → t σ H Q) : PW X e t' := ⟨fun wh pins s σ H Q I q => h.run wh pins s σ H Q I (w σ H Q q)⟩
@[simp] def bAnd (mA mB : Env' → Store → Res Bool) : Env' → Store → Res Bool := fun ρ ω => (mA ρ ω).bind fun k => if k = true then mB ρ ω else .ok false
@[simp] def bOr (mA mB : Env' → Store → Res Bool) : Env' → Store → Res Bool := fun ρ ω => (mA ρ ω).bind fun k => if k = true then .ok true else mB ρ ω
@[simp] def bNot (mA : Env' → Store → Res Bool) : Env' → Store → Res Bool := fun ρ ω => (mA ρ ω).bind fun k => .ok (!k)
theorem tT.bind {W : Wd} {F : Fm} {ρ : Env'} {ω : Store} {L : Lc} {σ : L2.St} {H : Hp} {Q : Bool → Hp → Prop} {mA : Env' → Store → Res Bool} {k : Bool → Res Bool} (R : Rel W F ρ ω L σ H) (h : LeafB W Wx L σ H Q ((mA ρ ω).bind k)) {P : Bool → Hp → Prop}
    (hP : ∀ b H1, Same H H1 → Rel W F ρ ω L σ H1 → LeafB W Wx L σ H1 Q (k b) → P b H1) : tT W Wx mA σ H P := by
  refine ⟨F, ρ, ω, L, R, ?_⟩
  cases e : mA ρ ω with
  | stuck => rw [e] at h; exact h
  | err x => rw [e] at h; exact h
  | ok b =>
    rw [e] at h
    exact fun H1 s => hP b H1 s (R.same s) (h.to s fun _ _ q => q)
variable {tA tB' : Env' → Store → Res Bool} {rest : List Expr}
theorem w_and1 (ha : DB X Wx a tA) : DW X Wx (.BoolOp .And [a] pos) tA := ⟨pw_and1 ha.pt⟩
theorem w_or1 (ha : DB X Wx a tA) : DW X Wx (.BoolOp .Or [a] pos) tA := ⟨pw_or1 ha.pt⟩
theorem w_and (ha : DB X Wx a tA) (hb : DW X Wx (.BoolOp .And (b :: rest) pos) tB') : DW X Wx (.BoolOp .And (a :: b :: rest) pos) (bAnd tA tB') :=
  ⟨PW.weak (pw_and ha.pt hb.pw) fun σ H Q ⟨F, ρ, ω, L, R, h⟩ => tT.bind (k := fun k => if k = true then tB' ρ ω else .ok false) R h fun k H1 s R1 l => by
    cases k with
    | true => rw [if_pos rfl] at l ⊢; exact ⟨F, ρ, ω, L, R1, l⟩
    | false => rw [if_neg (by decide)] at l ⊢; exact l H1 (Same.refl _)⟩
theorem w_or (ha : DB X Wx a tA) (hb : DW X Wx (.BoolOp .Or (b :: rest) pos) tB') : DW X Wx (.BoolOp .Or (a :: b :: rest) pos) (bOr tA tB') :=
  ⟨PW.weak (pw_or ha.pt hb.pw) fun σ H Q ⟨F, ρ, ω, L, R, h⟩ => tT.bind (k := fun k => if k = true then .ok true else tB' ρ ω) R h fun k H1 s R1 l => by
    cases k with
    | true => rw [if_pos rfl] at l ⊢; exact l H1 (Same.refl _)
    | false => rw [if_neg (by decide)] at l ⊢; exact ⟨F, ρ, ω, L, R1, l⟩⟩
theorem DW.db {e : Expr} {m : Env' → Store → Res Bool} (h : DW X Wx e m) : DB X Wx e m := ⟨h.pw.pt⟩
theorem t_not (ha : DB X Wx a tA) : DB X Wx (.UnaryOp .Not a pos) (bNot tA) :=
  ⟨PT.weak (pt_not ha.pt) fun σ H Q ⟨F, ρ, ω, L, R, h⟩ => tT.bind (k := fun k => .ok (!k)) R h fun k H1 s R1 l => l H1 (Same.refl _)⟩
/-! as values -/
@[simp] def mAnd (ma mb : M) : M := fun ρ ω => (ma ρ ω).bind fun x => match x with
  | .bl true => mb ρ ω
  | .bl false => .ok (.bl false)
  | _ => .stuck
@[simp] def mOr (ma mb : M) : M := fun ρ ω => (ma ρ ω).bind fun x => match x with
  | .bl true => .ok (.bl true)
  | .bl false => mb ρ ω
  | _ => .stuck
@[simp] def gNot : D → Res D
  | .bl k => .ok (.bl (!k))
  | _ => .stuck
theorem v_one {op} (ha : DP X Wx Ba a ma) : DP X Wx Ba (.BoolOp op [a] pos) ma := ⟨pe_one ha.pe⟩
theorem DP.sub {B B' : List Nat} {e : Expr} {m : M} (h : DP X Wx B e m) (s : ∀ i ∈ B, i ∈ B') : DP X Wx B' e m :=
  ⟨PE.weak h.pe fun σ H Q ⟨F, ρ, ω, L, R, l⟩ => ⟨F, ρ, ω, L, R, l.to (Same.refl _) s fun _ _ q => q⟩⟩
theorem v_and (ha : DU X Wx Ba a ma) (hb : DP X Wx Bb (.BoolOp .And (b :: rest) pos) mb) : DP X Wx (Ba ++ Bb) (.BoolOp .And (a :: b :: rest) pos) (mAnd ma mb) :=
  ⟨PE.weak (pe_and ha.pe hb.pe) fun σ H Q ⟨F, ρ, ω, L, R, h⟩ => part1 (B := Ba ++ Bb) (k := fun x => match x with
    | .bl true => mb ρ ω
    | .bl false => .ok (.bl false)
    | _ => .stuck) subl R h fun v H1 x s R1 p l => by
      cases x with
      | bl k =>
        refine ⟨k, p, ?_⟩
        cases k with
        | true => rw [if_pos rfl]; exact ⟨F, ρ, ω, L, R1, l.to (Same.refl _) subr fun _ _ q => q⟩
        | false => rw [if_neg (by decide)]; exact l _ H1 (Same.refl _) rfl
      | _ => exact l.elim⟩
theorem v_or (ha : DU X Wx Ba a ma) (hb : DP X Wx Bb (.BoolOp .Or (b :: rest) pos) mb) : DP X Wx (Ba ++ Bb) (.BoolOp .Or (a :: b :: rest) pos) (mOr ma mb) :=
  ⟨PE.weak (pe_or ha.pe hb.pe) fun σ H Q ⟨F, ρ, ω, L, R, h⟩ => part1 (B := Ba ++ Bb) (k := fun x => match x with
    | .bl true => .ok (.bl true)
    | .bl false => mb ρ ω
    | _ => .stuck) subl R h fun v H1 x s R1 p l => by
      cases x with
      | bl k =>
        refine ⟨k, p, ?_⟩
        cases k with
        | true => rw [if_pos rfl]; exact l _ H1 (Same.refl _) rfl
        | false => rw [if_neg (by decide)]; exact ⟨F, ρ, ω, L, R1, l.to (Same.refl _) subr fun _ _ q => q⟩
      | _ => exact l.elim⟩
theorem v_not (ha : DU X Wx Ba a ma) : DP X Wx Ba (.UnaryOp .Not a pos) (m1 ma gNot) :=
  ⟨PE.weak (pe_not ha.pe) fun σ H Q ⟨F, ρ, ω, L, R, h⟩ => part1 subid R h fun v H1 x s R1 p l => by
    unfold gNot at l
    split at l
    · exact ⟨_, p, l.ret rfl⟩
    · exact l.elim⟩
@[simp] def mIf (mt : Env' → Store → Res Bool) (ma mb : M) : M := fun ρ ω => (mt ρ ω).bind fun k => if k = true then ma ρ ω else mb ρ ω
theorem v_if (hc : DB X Wx c tA) (ha : DP X Wx Ba a ma) (hb : DP X Wx Bb b mb) : DP X Wx (Ba ++ Bb) (.IfExp c a b pos) (mIf tA ma mb) :=
  ⟨PE.weak (pe_ifExp hc.pt ha.pe hb.pe) fun σ H Q ⟨F, ρ, ω, L, R, h⟩ => ⟨F, ρ, ω, L, R, by
    unfold mIf at h
    cases e : tA ρ ω with
    | stuck => rw [e] at h; exact h
    | err x => rw [e] at h; exact h
    | ok k =>
      rw [e] at h
      intro H1 s
      have h : Leaf (wd X) Wx L (Ba ++ Bb) σ H Q (if k = true then ma ρ ω else mb ρ ω) := h
      cases k with
      | true => rw [if_pos rfl] at h ⊢; exact ⟨F, ρ, ω, L, R.same s, h.to s subl fun _ _ q => q⟩
      | false => rw [if_neg (by decide)] at h ⊢; exact ⟨F, ρ, ω, L, R.same s, h.to s subr fun _ _ q => q⟩⟩⟩
end
end DL
namespace DL
open PySem PySem.Spec PyProof.Rows L2

/-! ### fields -/
/-- what the walk asks of a class whose objects bear the field f -/
structure FldOk (X : Cx) (c f : Str) : Prop where
  ok : ∀ C, X.mg c = some (.ref C) → Cls X.K C ∧ NoAttr X.K C f
def fldAt (c f : Str) (ω : Store) : D → Res D
  | .obj n => (match ω[n]? with
    | some o => if o.cls = c then (match o.fs.lookup f with
      | some (.val d) => .ok d
      | some (.own d) => .ok d
      | _ => .stuck) else .stuck
    | none => .stuck)
  | .ins k fs => if k = c then (match fs.lookup f with
    | some d => .ok d
    | none => .stuck) else .stuck
  | _ => .stuck
def mFld (c f : Str) (ma : M) : M := fun ρ ω => (ma ρ ω).bind (fldAt c f ω)
theorem FsR.get {W : Wd} {H : Hp} {L : Lc} {n : Nat} {ex : Bool} {f : Str} {s : Sl} : ∀ {fs : List (Str × Sl)} {vs : List (Str × V)}, FsR W H L n ex fs vs → fs.lookup f = some s → ∃ v, vs.lookup f = some v ∧ SltR W H L (.fd n f) ex s (some v)
  | [], _, h, e => by cases e
  | (g, x) :: r, _, h, e => by
    obtain ⟨v, t, rfl, p, q⟩ := h
    by_cases z : f = g
    · subst z
      simp only [List.lookup, beq_self_eq_true] at e ⊢
      cases e
      exact ⟨v, rfl, p⟩
    · have z' : (f == g) = false := by simpa using z
      simp only [List.lookup, z'] at e ⊢
      exact FsR.get q e
theorem RepF.get {W : Wd} {H : Hp} {S : Addr → Prop} {ob : Nat → Option Addr} {f : Str} {d : D} : ∀ {fs : List (Str × D)} {vs : List (Str × V)}, RepF W H S ob fs vs → fs.lookup f = some d → ∃ v, vs.lookup f = some v ∧ Rep W H S ob d v
  | [], _, h, e => by cases e
  | (g, x) :: r, _, h, e => by
    obtain ⟨v, t, rfl, p, q⟩ := h
    by_cases z : f = g
    · subst z
      simp only [List.lookup, beq_self_eq_true] at e ⊢
      cases e
      exact ⟨v, rfl, p⟩
    · have z' : (f == g) = false := by simpa using z
      simp only [List.lookup, z'] at e ⊢
      exact RepF.get q e
theorem RepO.u {W : Wd} {H : Hp} {S : Addr → Prop} {ob : Nat → Option Addr} {ex : Bool} : ∀ {d : D} {a : Addr}, RepO W H S ob ex d a → RepU W H S ob d (.ref a)
  | .lst xs, a, ⟨vs, h, q⟩ => ⟨a, vs, rfl, h, q⟩
  | .dK xs, a, ⟨vs, h, q⟩ => ⟨a, vs, rfl, h.rd, q⟩
  | .dT xs, a, ⟨vs, h, q⟩ => ⟨a, vs, rfl, h.rd, q⟩
  | .non, _, h | .bl _, _, h | .int _, _, h | .str _, _, h | .tup _, _, h | .ctup _, _, h | .ins _ _, _, h | .obj _, _, h => h.elim
theorem RepU.wide0 {W : Wd} {H : Hp} {L : Lc} {B : List Nat} {ob : Nat → Option Addr} {d : D} {v : V} (h : RepU W H (Fr L []) ob d v) : RepU W H (Fr L B) ob d v := h.wide nilsub
section
variable {X : Cx} {Wx : WX} {pos : Pos} {a b c : Expr} {Ba Bb Bc B : List Nat} {ma mb mc : M} {x f : Str} {pz : Pos}
theorem u_fld (cl : Str) (T : FldOk X cl f) (ha : DU X Wx Ba a ma) (hb : attributeBase a f X.env (eval a X.env) = eval a X.env := by rfl) : DU X Wx Ba (.Attribute a f pos) (mFld cl f ma) :=
  ⟨PE.weak (pe_fld ha.pe hb) fun σ H Q ⟨F, ρ, ω, L, R, h⟩ => by
    refine ⟨F, ρ, ω, L, R, ?_⟩
    unfold mFld at h
    cases e : ma ρ ω with
    | stuck => rw [e] at h; exact h
    | err x => rw [e] at h; exact h
    | ok x =>
      rw [e] at h
      intro v H1 s r
      replace h : LeafU (wd X) Wx L Ba σ H Q (fldAt cl f ω x) := h
      have R1 := R.same s
      unfold fldAt at h
      split at h
      · rename_i n
        split at h
        · rename_i o eo
          split at h
          · rename_i ec
            obtain ⟨p, C, dx, fs, e1, e2, e3, q⟩ := (R1.st n o eo).at_
            obtain ⟨a1, e4, e5⟩ := r
            have e6 : p = a1 := Option.some.inj (e1.symm.trans e4)
            subst e6
            rw [ec] at e2
            obtain ⟨T1, T2⟩ := T.ok C e2
            split at h
            · rename_i d el
              obtain ⟨v1, l1, r1⟩ := q.get el
              obtain ⟨v2, e7, r2⟩ := r1
              cases e7
              exact ⟨p, C, dx, fs, v1, e5, e3, T1, T2, l1, h v1 H1 s r2.u.wide0⟩
            · rename_i d el
              obtain ⟨v1, l1, r1⟩ := q.get el
              obtain ⟨a2, e7, _, r2⟩ := r1
              cases e7
              exact ⟨p, C, dx, fs, _, e5, e3, T1, T2, l1, h _ H1 s r2.u.wide0⟩
            · exact h.elim
          · exact h.elim
        · exact h.elim
      · rename_i k fs
        split at h
        · rename_i ec
          obtain ⟨a1, C, dx, fv, e5, s1, e2, e3, q⟩ := r
          rw [ec] at e2
          obtain ⟨T1, T2⟩ := T.ok C e2
          split at h
          · rename_i d el
            obtain ⟨v1, l1, r1⟩ := q.get el
            exact ⟨a1, C, dx, fv, v1, e5, e3, T1, T2, l1, h v1 H1 s r1.u⟩
          · exact h.elim
        · exact h.elim
      · exact h.elim⟩
/-- the field's value, where it is nobody's own container -/
def fldVal (c f : Str) (ω : Store) : D → Res D
  | .obj n => (match ω[n]? with
    | some o => if o.cls = c then (match o.fs.lookup f with
      | some (.val d) => .ok d
      | _ => .stuck) else .stuck
    | none => .stuck)
  | .ins k fs => if k = c then (match fs.lookup f with
    | some d => .ok d
    | none => .stuck) else .stuck
  | _ => .stuck
def mFldV (c f : Str) (ma : M) : M := fun ρ ω => (ma ρ ω).bind (fldVal c f ω)
theorem d_fld (cl : Str) (T : FldOk X cl f) (ha : DP X Wx Ba a ma) (hb : attributeBase a f X.env (eval a X.env) = eval a X.env := by rfl) : DP X Wx Ba (.Attribute a f pos) (mFldV cl f ma) :=
  ⟨PE.weak (pe_fld ha.pe hb) fun σ H Q ⟨F, ρ, ω, L, R, h⟩ => by
    refine ⟨F, ρ, ω, L, R, ?_⟩
    unfold mFldV at h
    cases e : ma ρ ω with
    | stuck => rw [e] at h; exact h
    | err x => rw [e] at h; exact h
    | ok x =>
      rw [e] at h
      intro v H1 s r
      replace h : Leaf (wd X) Wx L Ba σ H Q (fldVal cl f ω x) := h
      have R1 := R.same s
      unfold fldVal at h
      split at h
      · rename_i n
        split at h
        · rename_i o eo
          split at h
          · rename_i ec
            obtain ⟨p, C, dx, fs, e1, e2, e3, q⟩ := (R1.st n o eo).at_
            obtain ⟨a1, e4, e5⟩ := r
            have e6 : p = a1 := Option.some.inj (e1.symm.trans e4)
            subst e6
            rw [ec] at e2
            obtain ⟨T1, T2⟩ := T.ok C e2
            split at h
            · rename_i d el
              obtain ⟨v1, l1, r1⟩ := q.get el
              obtain ⟨v2, e7, r2⟩ := r1
              cases e7
              exact ⟨p, C, dx, fs, v1, e5, e3, T1, T2, l1, h v1 H1 s (r2.wide nilsub)⟩
            · exact h.elim
          · exact h.elim
        · exact h.elim
      · rename_i k fs
        split at h
        · rename_i ec
          obtain ⟨a1, C, dx, fv, e5, s1, e2, e3, q⟩ := r
          rw [ec] at e2
          obtain ⟨T1, T2⟩ := T.ok C e2
          split at h
          · rename_i d el
            obtain ⟨v1, l1, r1⟩ := q.get el
            exact ⟨a1, C, dx, fv, v1, e5, e3, T1, T2, l1, h v1 H1 s r1⟩
          · exact h.elim
        · exact h.elim
      · exact h.elim⟩
/-! ### arguments, displays -/
def LeafA (W : Wd) (Wx : WX) (L : Lc) (B : List Nat) (σ : L2.St) (H : Hp) (Q : List V → Hp → Prop) : Res (List D) → Prop
  | .stuck => False
  | .ok ds => ∀ vs H', Same H H' → Reps W H' (Fr L B) (obs L) ds vs → Q vs H'
  | .err e => ∀ cls dd H', Same H H' → Exc W H' e cls dd → Wx cls dd σ H'
abbrev MA := Env' → Store → Res (List D)
def tA (W : Wd) (Wx : WX) (B : List Nat) (m : MA) : TA := fun σ H Q => ∃ F ρ ω L, Rel W F ρ ω L σ H ∧ LeafA W Wx L B σ H Q (m ρ ω)
structure DA (X : Cx) (Wx : WX) (B : List Nat) (es : List Expr) (m : MA) : Prop where
  pa : PA X es (tA (wd X) Wx B m)
theorem PA.weak {es : List Expr} {t t' : TA} (h : PA X es t) (w : ∀ σ H Q, t' σ H Q → t σ H Q) : PA X es t' := ⟨fun pos pins s σ H Q I q => h.run pos pins s σ H Q I (w σ H Q q)⟩
@[simp] def aNil : MA := fun _ _ => .ok []
@[simp] def aCons (ma : M) (mr : MA) : MA := fun ρ ω => (ma ρ ω).bind fun x => (mr ρ ω).bind fun xs => .ok (x :: xs)
theorem a_nil : DA X Wx [] [] aNil := ⟨PA.weak pa_nil fun σ H Q ⟨F, ρ, ω, L, R, h⟩ => h [] H (Same.refl H) rfl⟩
theorem a_cons {es : List Expr} {mr : MA} (ha : DP X Wx Ba a ma) (hr : DA X Wx Bb es mr) (hs : starEach (a :: es) X.env = (false, eval a X.env) :: starEach es X.env := by rfl) : DA X Wx (Ba ++ Bb) (a :: es) (aCons ma mr) :=
  ⟨PA.weak (pa_cons ha.pe hr.pa hs) fun σ H Q ⟨F, ρ, ω, L, R, h⟩ => by
    refine ⟨F, ρ, ω, L, R, ?_⟩
    unfold aCons at h
    cases e : ma ρ ω with
    | stuck => rw [e] at h; exact h
    | err x => rw [e] at h; exact h
    | ok x =>
      rw [e] at h
      intro v H1 s r
      refine ⟨F, ρ, ω, L, R.same s, ?_⟩
      cases e2 : mr ρ ω with
      | stuck => rw [e2] at h; exact h
      | err x => rw [e2] at h; exact fun c d H' s' x => h c d H' (s.trans s') x
      | ok xs =>
        rw [e2] at h
        intro vs H2 s2 r2
        exact h (v :: vs) H2 (s.trans s2) ⟨v, vs, rfl, (r.same s2).wide subl, r2.wide subr⟩⟩
theorem LeafA.to {W : Wd} {L : Lc} {B B' : List Nat} {σ : L2.St} {H : Hp} {Q : List V → Hp → Prop} {Q' : VK} {r : Res (List D)} {k : List D → Res D} (h : Leaf W Wx L B' σ H Q' (r.bind k)) (hB : ∀ i ∈ B, i ∈ B')
    (hP : ∀ vs H1 ds, Same H H1 → Reps W H1 (Fr L B') (obs L) ds vs → Leaf W Wx L B' σ H1 Q' (k ds) → Q vs H1) : LeafA W Wx L B σ H Q r := by
  cases r with
  | stuck => exact h
  | err e => exact h
  | ok ds => exact fun vs H1 s q => hP vs H1 ds s (q.wide hB) (Leaf.to (r := k ds) h s subid fun _ _ q => q)
@[simp] def mTup (m : MA) : M := fun ρ ω => (m ρ ω).bind fun ds => if ds.length ≤ 1000 then .ok (.tup ds) else .stuck
theorem d_tup {es : List Expr} {m : MA} {k} (h : DA X Wx B es m) : DP X Wx B (.Tuple es k pos) (mTup m) :=
  ⟨PE.weak (pe_tup h.pa) fun σ H Q ⟨F, ρ, ω, L, R, h⟩ => ⟨F, ρ, ω, L, R, by
    refine LeafA.to (k := fun ds => if ds.length ≤ 1000 then .ok (.tup ds) else .stuck) h subid fun vs H1 ds s q l => ?_
    split at l
    · rename_i hl
      refine ⟨by rw [q.len, sizeLine_eq]; omega, fun z hz => ?_⟩
      have sm := same_upd (o := .tup vs) hz
      exact l.ret' sm ⟨z, vs, rfl, upd_same, q.same sm⟩
    · exact l.elim⟩⟩
/-! ### new containers, nobody's yet -/
/-- nobody's but B's, and not z -/
def Fn (L : Lc) (B : List Nat) (z : Addr) : Addr → Prop := fun b => Fr L B b ∧ b ≠ z
theorem kp_new {H : Hp} {L : Lc} {B : List Nat} {z : Addr} {o : HO} (hz : H z = none) : Kp H (upd H z o) (Fr L B) (Fn L B z) (obs L) (obs L) :=
  ⟨fun b u f h => ⟨f, ne_of_none h hz⟩, fun b u _ h => same_upd hz b u h, fun b xs h => same_upd hz b _ h, fun _ _ h => h⟩
theorem kp_fn {H : Hp} {L : Lc} {B : List Nat} {z : Addr} : Kp H H (Fn L B z) (Fr L B) (obs L) (obs L) := ⟨fun _ _ f _ => f.1, fun _ _ _ h => h, fun _ _ h => h, fun _ _ h => h⟩
def LeafF (W : Wd) (Wx : WX) (L : Lc) (B : List Nat) (σ : L2.St) (H : Hp) (Q : VK) : Res D → Prop
  | .stuck => False
  | .ok d => ∀ a H', Same H H' → H a = none → RepO W H' (Fn L B a) (obs L) true d a → Q (.ref a) H'
  | .err e => ∀ cls dd H', Same H H' → Exc W H' e cls dd → Wx cls dd σ H'
def tF (W : Wd) (Wx : WX) (B : List Nat) (m : M) : TE := fun σ H Q => ∃ F ρ ω L, Rel W F ρ ω L σ H ∧ LeafF W Wx L B σ H Q (m ρ ω)
structure DF (X : Cx) (Wx : WX) (B : List Nat) (e : Expr) (m : M) : Prop where
  pe : PE X e (tF (wd X) Wx B m)
theorem RepO.rep {W : Wd} {H : Hp} {L : Lc} {B : List Nat} {ex : Bool} : ∀ {d : D} {a : Addr}, RepO W H (Fn L B a) (obs L) ex d a → Fr L B a → Rep W H (Fr L B) (obs L) d (.ref a)
  | .lst xs, a, ⟨vs, h, q⟩, f => ⟨a, vs, rfl, f, h, Reps.mono kp_fn _ _ q⟩
  | .dK xs, a, ⟨vs, h, q⟩, f => ⟨a, vs, rfl, f, h.rd, RepK.mono kp_fn _ _ q⟩
  | .dT xs, a, ⟨vs, h, q⟩, f => ⟨a, vs, rfl, f, h.rd, RepT.mono kp_fn _ _ q⟩
  | .non, _, h, _ | .bl _, _, h, _ | .int _, _, h, _ | .str _, _, h, _ | .tup _, _, h, _ | .ctup _, _, h, _ | .ins _ _, _, h, _ | .obj _, _, h, _ => h.elim
theorem DF.dp {e : Expr} {m : M} (h : DF X Wx B e m) : DP X Wx B e m := ⟨PE.weak h.pe fun σ H Q ⟨F, ρ, ω, L, R, h⟩ => ⟨F, ρ, ω, L, R, by
  cases z : m ρ ω with
  | stuck => rw [z] at h; exact h
  | err x => rw [z] at h; exact h
  | ok x => rw [z] at h; exact fun a H1 s n r => h _ H1 s (r.rep (R.al.fr n B))⟩⟩
theorem LeafF.ret {W : Wd} {L : Lc} {σ : L2.St} {H H' : Hp} {Q : VK} {d : D} {a : Addr} (h : LeafF W Wx L B σ H Q (.ok d)) (s : Same H H') (n : H a = none) (r : RepO W H' (Fn L B a) (obs L) true d a) : Q (.ref a) H' := h a H' s n r
@[simp] def mLst (m : MA) : M := fun ρ ω => (m ρ ω).bind fun ds => if ds.length ≤ 1000 then .ok (.lst ds) else .stuck
theorem f_lst {es : List Expr} {m : MA} (h : DA X Wx B es m) : DF X Wx B (.List es pos) (mLst m) :=
  ⟨PE.weak (pe_lst h.pa) fun σ H Q ⟨F, ρ, ω, L, R, h⟩ => ⟨F, ρ, ω, L, R, by
    unfold mLst at h
    cases e : m ρ ω with
    | stuck => rw [e] at h; exact h
    | err x => rw [e] at h; exact h
    | ok ds =>
      rw [e] at h
      have h : LeafF (wd X) Wx L B σ H Q (if ds.length ≤ 1000 then .ok (.lst ds) else .stuck) := h
      intro vs H1 s q
      split at h
      · rename_i hl
        refine ⟨by rw [q.len, sizeLine_eq]; omega, fun z hz => ?_⟩
        have sm := same_upd (o := .lst vs) hz
        exact h.ret (s.trans sm) (s.free hz) ⟨vs, upd_same, Reps.mono (kp_new hz) _ _ q⟩
      · exact h.elim⟩⟩
theorem f_dK : DF X Wx [] (.Dict [] [] pos) (mC (.dK [])) :=
  ⟨PE.weak pe_dnewK fun σ H Q ⟨F, ρ, ω, L, R, h⟩ => fun z hz => LeafF.ret h (same_upd hz) hz ⟨[], .of upd_same, rfl⟩⟩
theorem f_dT : DF X Wx [] (.Dict [] [] pos) (mC (.dT [])) :=
  ⟨PE.weak pe_dnewT fun σ H Q ⟨F, ρ, ω, L, R, h⟩ => fun z hz => LeafF.ret h (same_upd hz) hz ⟨[], .of upd_same, rfl⟩⟩
end
end DL
namespace DL
open PySem PySem.Spec PyProof.Rows L2

def LfC (W : Wd) (g : D → Res D) (r : List V → Hp → VK → Prop) : Prop := ∀ (Wx : WX) (L : Lc) (B : List Nat) (σ : L2.St) (H : Hp) (Q : VK) (x : D) (v : V), Al L H → RepU W H (Fr L B) (obs L) x v → Leaf W Wx L B σ H Q (g x) → r [v] H Q
def LfC2 (W : Wd) (g : D → D → Res D) (r : List V → Hp → VK → Prop) : Prop := ∀ (Wx : WX) (L : Lc) (B : List Nat) (σ : L2.St) (H : Hp) (Q : VK) (x y : D) (v w : V), Al L H → RepU W H (Fr L B) (obs L) x v → RepU W H (Fr L B) (obs L) y w → Leaf W Wx L B σ H Q (g x y) → r [v, w] H Q
def LfCF (W : Wd) (g : D → Res D) (r : List V → Hp → VK → Prop) : Prop := ∀ (Wx : WX) (L : Lc) (B : List Nat) (σ : L2.St) (H : Hp) (Q : VK) (x : D) (v : V), RepU W H (Fr L B) (obs L) x v → LeafF W Wx L B σ H Q (g x) → r [v] H Q
theorem LeafF.to {W : Wd} {Wx : WX} {L : Lc} {B : List Nat} {σ : L2.St} {H H' : Hp} {Q : VK} {r : Res D} (h : LeafF W Wx L B σ H Q r) (s : Same H H') : LeafF W Wx L B σ H' Q r := by
  cases r with
  | stuck => exact h
  | ok d => exact fun a H2 s2 n r => h a H2 (s.trans s2) (s.free n) r
  | err e => exact fun c d H2 s2 r => h c d H2 (s.trans s2) r
section
variable {X : Cx} {Wx : WX} {pos p : Pos} {a b c : Expr} {Ba Bb Bc B : List Nat} {ma mb mc : M} {x f : Str} {id T : String} {r : List V → Hp → VK → Prop} {g : D → Res D} {g2 : D → D → Res D}
theorem part1f {W : Wd} {F : Fm} {ρ : Env'} {ω : Store} {L : Lc} {σ : L2.St} {H : Hp} {Q : VK} {B Ba : List Nat} {ma : M} {k : D → Res D} (hB : ∀ i ∈ Ba, i ∈ B) (R : Rel W F ρ ω L σ H) (h : LeafF W Wx L B σ H Q ((ma ρ ω).bind k)) {P : VK}
    (hP : ∀ v H1 x, Same H H1 → Rel W F ρ ω L σ H1 → RepU W H1 (Fr L B) (obs L) x v → LeafF W Wx L B σ H1 Q (k x) → P v H1) : tU W Wx Ba ma σ H P := by
  refine ⟨F, ρ, ω, L, R, ?_⟩
  cases e : ma ρ ω with
  | stuck => rw [e] at h; exact h
  | err x => rw [e] at h; exact h
  | ok x =>
    rw [e] at h
    exact fun v H1 s r => hP v H1 x s (R.same s) (r.wide hB) (h.to s)
theorem d_callB1 (hc : CallR X (.builtin id) r) (hl : LfC (wd X) g r) (hg : Gl X x) (hm : X.mg x = none) (hv : bootBuiltins x = some (.builtin id)) (ha : DU X Wx Ba a ma) (hn : x ≠ "__name__" := by decide) (hdb : (x == ("__debug__" : Str)) = false := by decide)
    (he : starEach [a] X.env = (false, eval a X.env) :: starEach [] X.env := by rfl) (hpl : (backTo pos (starEach [] X.env)).any (·.1) = false := by rfl) : DP X Wx Ba (.Call (.Name x p) [a] [] pos) (m1 ma g) :=
  ⟨PE.weak (pe_callB hc hg hm hv (pa_cons ha.pe pa_nil he) hn hdb he hpl) fun σ H Q ⟨F, ρ, ω, L, R, h⟩ => part1 subid R h fun v H1 x s R1 q l => hl Wx L Ba σ H1 Q x v R1.al q l⟩
theorem d_callT1 (hc : CallR X (.type T) r) (hl : LfC (wd X) g r) (hg : Gl X x) (hm : X.mg x = none) (hv : bootBuiltins x = some (.type T)) (ha : DU X Wx Ba a ma) (hn : x ≠ "__name__" := by decide) (hdb : (x == ("__debug__" : Str)) = false := by decide)
    (he : starEach [a] X.env = (false, eval a X.env) :: starEach [] X.env := by rfl) (hpl : (backTo pos (starEach [] X.env)).any (·.1) = false := by rfl) : DP X Wx Ba (.Call (.Name x p) [a] [] pos) (m1 ma g) :=
  ⟨PE.weak (pe_callTy hc hg hm hv (pa_cons ha.pe pa_nil he) hn hdb he hpl) fun σ H Q ⟨F, ρ, ω, L, R, h⟩ => part1 subid R h fun v H1 x s R1 q l => hl Wx L Ba σ H1 Q x v R1.al q l⟩
theorem f_callB1 (hc : CallR X (.builtin id) r) (hl : LfCF (wd X) g r) (hg : Gl X x) (hm : X.mg x = none) (hv : bootBuiltins x = some (.builtin id)) (ha : DU X Wx Ba a ma) (hn : x ≠ "__name__" := by decide) (hdb : (x == ("__debug__" : Str)) = false := by decide)
    (he : starEach [a] X.env = (false, eval a X.env) :: starEach [] X.env := by rfl) (hpl : (backTo pos (starEach [] X.env)).any (·.1) = false := by rfl) : DF X Wx Ba (.Call (.Name x p) [a] [] pos) (m1 ma g) :=
  ⟨PE.weak (pe_callB hc hg hm hv (pa_cons ha.pe pa_nil he) hn hdb he hpl) fun σ H Q ⟨F, ρ, ω, L, R, h⟩ => part1f subid R h fun v H1 x s R1 q l => hl Wx L Ba σ H1 Q x v q l⟩
theorem f_callT1 (hc : CallR X (.type T) r) (hl : LfCF (wd X) g r) (hg : Gl X x) (hm : X.mg x = none) (hv : bootBuiltins x = some (.type T)) (ha : DU X Wx Ba a ma) (hn : x ≠ "__name__" := by decide) (hdb : (x == ("__debug__" : Str)) = false := by decide)
    (he : starEach [a] X.env = (false, eval a X.env) :: starEach [] X.env := by rfl) (hpl : (backTo pos (starEach [] X.env)).any (·.1) = false := by rfl) : DF X Wx Ba (.Call (.Name x p) [a] [] pos) (m1 ma g) :=
  ⟨PE.weak (pe_callTy hc hg hm hv (pa_cons ha.pe pa_nil he) hn hdb he hpl) fun σ H Q ⟨F, ρ, ω, L, R, h⟩ => part1f subid R h fun v H1 x s R1 q l => hl Wx L Ba σ H1 Q x v q l⟩
theorem d_callB2 (hc : CallR X (.builtin id) r) (hl : LfC2 (wd X) g2 r) (hg : Gl X x) (hm : X.mg x = none) (hv : bootBuiltins x = some (.builtin id)) (ha : DU X Wx Ba a ma) (hb : DU X Wx Bb b mb) (hn : x ≠ "__name__" := by decide) (hdb : (x == ("__debug__" : Str)) = false := by decide)
    (he : starEach [a, b] X.env = (false, eval a X.env) :: starEach [b] X.env := by rfl) (he2 : starEach [b] X.env = (false, eval b X.env) :: starEach [] X.env := by rfl) (hpl : (backTo pos (starEach [b] X.env)).any (·.1) = false := by rfl) : DP X Wx (Ba ++ Bb) (.Call (.Name x p) [a, b] [] pos) (m2 ma mb g2) :=
  ⟨PE.weak (pe_callB hc hg hm hv (pa_cons ha.pe (pa_cons hb.pe pa_nil he2) he) hn hdb he hpl) fun σ H Q ⟨F, ρ, ω, L, R, h⟩ => part2 subl subr R h fun v w H1 x y s R1 q q2 l => hl Wx L (Ba ++ Bb) σ H1 Q x y v w R1.al q q2 l⟩
/-! abs, min, max -/
@[simp] def gAbs : D → Res D
  | .int i => .ok (.int (if i < 0 then -i else i))
  | _ => .stuck
@[simp] def gMax2 : D → D → Res D
  | .int i, .int j => .ok (.int (if j > i then j else i))
  | _, _ => .stuck
@[simp] def gMin2 : D → D → Res D
  | .int i, .int j => .ok (.int (if j < i then j else i))
  | _, _ => .stuck
theorem lf_abs {W : Wd} : LfC W gAbs (fun xs H Q => ∃ i, xs = [.int i] ∧ Q (.int (if i < 0 then -i else i)) H) := by
  intro Wx L B σ H Q x v al q l
  unfold gAbs at l
  split at l
  · exact ⟨_, by rw [show v = .int _ from q], l.ret rfl⟩
  · exact l.elim
theorem lf_max2 {W : Wd} : LfC2 W gMax2 (fun xs H Q => ∃ i j, xs = [.int i, .int j] ∧ Q (.int (if j > i then j else i)) H) := by
  intro Wx L B σ H Q x y v w al p q l
  unfold gMax2 at l
  split at l
  · exact ⟨_, _, by rw [show v = .int _ from p, show w = .int _ from q], l.ret rfl⟩
  · exact l.elim
theorem lf_min2 {W : Wd} : LfC2 W gMin2 (fun xs H Q => ∃ i j, xs = [.int i, .int j] ∧ Q (.int (if j < i then j else i)) H) := by
  intro Wx L B σ H Q x y v w al p q l
  unfold gMin2 at l
  split at l
  · exact ⟨_, _, by rw [show v = .int _ from p, show w = .int _ from q], l.ret rfl⟩
  · exact l.elim
theorem d_abs (hg : Gl X "abs") (hm : X.mg "abs" = none) (ha : DU X Wx Ba a ma) (he : starEach [a] X.env = (false, eval a X.env) :: starEach [] X.env := by rfl) : DP X Wx Ba (.Call (.Name "abs" p) [a] [] pos) (m1 ma gAbs) := d_callB1 call_abs lf_abs hg hm (by decide +kernel) ha (he := he)
theorem d_max2 (hc : X.calm = true) (hg : Gl X "max") (hm : X.mg "max" = none) (ha : DU X Wx Ba a ma) (hb : DU X Wx Bb b mb) (he : starEach [a, b] X.env = (false, eval a X.env) :: starEach [b] X.env := by rfl) (he2 : starEach [b] X.env = (false, eval b X.env) :: starEach [] X.env := by rfl) (hpl : (backTo pos (starEach [b] X.env)).any (·.1) = false := by rfl) :
    DP X Wx (Ba ++ Bb) (.Call (.Name "max" p) [a, b] [] pos) (m2 ma mb gMax2) := d_callB2 (call_max2 hc) lf_max2 hg hm (by decide +kernel) ha hb (he := he) (he2 := he2) (hpl := hpl)
theorem d_min2 (hc : X.calm = true) (hg : Gl X "min") (hm : X.mg "min" = none) (ha : DU X Wx Ba a ma) (hb : DU X Wx Bb b mb) (he : starEach [a, b] X.env = (false, eval a X.env) :: starEach [b] X.env := by rfl) (he2 : starEach [b] X.env = (false, eval b X.env) :: starEach [] X.env := by rfl) (hpl : (backTo pos (starEach [b] X.env)).any (·.1) = false := by rfl) :
    DP X Wx (Ba ++ Bb) (.Call (.Name "min" p) [a, b] [] pos) (m2 ma mb gMin2) := d_callB2 (call_min2 hc) lf_min2 hg hm (by decide +kernel) ha hb (he := he) (he2 := he2) (hpl := hpl)
/-! len -/
@[simp] noncomputable def gLen : D → Res D
  | .lst xs => .ok (.int xs.length)
  | .tup xs => .ok (.int xs.length)
  | .dK xs => .ok (.int xs.length)
  | .str s => @ite _ (s.length ≤ 16777216) (Classical.propDecidable _) (.ok (.int s.length)) .stuck
  | _ => .stuck
theorem repK_len {W : Wd} {H : Hp} {S : Addr → Prop} {ob : Nat → Option Addr} : ∀ {ds : List (Key × D)} {vs : List (Key × V)}, RepK W H S ob ds vs → vs.length = ds.length
  | [], _, h => by rw [show _ = [] from h]; rfl
  | (k, d) :: ds, _, h => by
    obtain ⟨v, r, e, p, q⟩ := h
    rw [e, List.length_cons, List.length_cons, repK_len q]
abbrev rLen4 (K : PySem.W.Frag) : List V → Hp → VK → Prop := fun xs H Q => (∃ p ys, xs = [.ref p] ∧ (SqL K H p ys ∨ SqT K H p ys) ∧ Q (.int ys.length) H) ∨ ((∃ z, xs = [.str z] ∧ z.length ≤ sizeLine ∧ Q (.int z.length) H) ∨ ∃ a kvs, xs = [V.ref a] ∧ Rd H a (.dK kvs) ∧ Q (.int kvs.length) H)
theorem call_lenR : CallR X (.builtin "len") (fun xs H Q => ∃ a kvs, xs = [V.ref a] ∧ Rd H a (.dK kvs) ∧ Q (.int kvs.length) H) := by
  intro pins s σ H xs us Q I r h
  obtain ⟨a, kvs, rfl, ha, q⟩ := h
  obtain ⟨u, rfl, ru⟩ := vals1 r
  cases ru
  exact L2.d_len I ha fun t s' I' => ⟨.int kvs.length, H, I', ⟨t, rfl⟩, q⟩
theorem call_len4 : CallR X (.builtin "len") (rLen4 X.K) := call_len_seq.or (call_len_str.or call_lenR)
theorem lf_len {W : Wd} : LfC W gLen (rLen4 W.K) := by
  intro Wx L B σ H Q x v al q l
  unfold gLen at l
  split at l
  · obtain ⟨a, vs, e, h, r⟩ := q
    exact .inl ⟨a, vs, by rw [e], .inl (.of h), by rw [r.len]; exact l.ret rfl⟩
  · obtain ⟨a, vs, e, h, r⟩ := q
    exact .inl ⟨a, vs, by rw [e], .inr (.of h), by rw [r.len]; exact l.ret rfl⟩
  · obtain ⟨a, vs, e, h, r⟩ := q
    exact .inr (.inr ⟨a, vs, by rw [e], h, by rw [repK_len r]; exact l.ret rfl⟩)
  · split at l
    · rename_i z hz
      exact .inr (.inl ⟨_, by rw [show v = .str _ from q], by rw [sizeLine_eq]; exact hz, l.ret rfl⟩)
    · exact l.elim
  · exact l.elim
theorem d_len (hg : Gl X "len") (hm : X.mg "len" = none) (ha : DU X Wx Ba a ma) (he : starEach [a] X.env = (false, eval a X.env) :: starEach [] X.env := by rfl) : DP X Wx Ba (.Call (.Name "len" p) [a] [] pos) (m1 ma gLen) := d_callB1 call_len4 lf_len hg hm boot_len ha (he := he)
/-! str, int -/
@[simp] def gStr : D → Res D
  | .int i => if i.natAbs.log2 < 1920 then .ok (.str (toString i)) else .stuck
  | .str s => .ok (.str s)
  | _ => .stuck
abbrev rStr2 : List V → Hp → VK → Prop := fun xs H Q => (∃ i, xs = [.int i] ∧ i.natAbs.log2 < 1920 ∧ Q (.str (toString i)) H) ∨ ∃ a, xs = [.str a] ∧ Q (.str a) H
theorem call_str2 : CallR X (.type "str") rStr2 := call_str_int.or SkE.call_str_str
theorem lf_str {W : Wd} : LfC W gStr rStr2 := by
  intro Wx L B σ H Q x v al q l
  unfold gStr at l
  split at l
  · split at l
    · rename_i h
      exact .inl ⟨_, by rw [show v = .int _ from q], h, l.ret rfl⟩
    · exact l.elim
  · exact .inr ⟨_, by rw [show v = .str _ from q], l.ret rfl⟩
  · exact l.elim
theorem d_strc (hg : Gl X "str") (hm : X.mg "str" = none) (ha : DU X Wx Ba a ma) (he : starEach [a] X.env = (false, eval a X.env) :: starEach [] X.env := by rfl) : DP X Wx Ba (.Call (.Name "str" p) [a] [] pos) (m1 ma gStr) := d_callT1 call_str2 lf_str hg hm (by decide +kernel) ha (he := he)
def gInt1 : D → Res D
  | .int i => .ok (.int i)
  | .bl k => .ok (.int (if k = true then 1 else 0))
  | .str s => (match PySem.intText? s with
    | some n => if s.length ≤ 640 then .ok (.int n) else .stuck
    | none => .stuck)
  | _ => .stuck
abbrev rInt2 : List V → Hp → VK → Prop := fun xs H Q => ((∃ i, xs = [.int i] ∧ Q (.int i) H) ∨ ∃ k, xs = [.bl k] ∧ Q (.int (if k then 1 else 0)) H) ∨ ∃ a n, xs = [.str a] ∧ PySem.intText? a = some n ∧ a.length ≤ 640 ∧ Q (.int n) H
theorem lf_int1 {W : Wd} : LfC W gInt1 rInt2 := by
  intro Wx L B σ H Q x v al q l
  unfold gInt1 at l
  split at l
  · exact .inl (.inl ⟨_, by rw [show v = .int _ from q], l.ret rfl⟩)
  · exact .inl (.inr ⟨_, by rw [show v = .bl _ from q], l.ret rfl⟩)
  · split at l
    · rename_i n e
      split at l
      · rename_i h
        exact .inr ⟨_, n, by rw [show v = .str _ from q], e, h, l.ret rfl⟩
      · exact l.elim
    · exact l.elim
  · exact l.elim
theorem d_intc (hg : Gl X "int") (hm : X.mg "int" = none) (ha : DU X Wx Ba a ma) (he : starEach [a] X.env = (false, eval a X.env) :: starEach [] X.env := by rfl) : DP X Wx Ba (.Call (.Name "int" p) [a] [] pos) (m1 ma gInt1) := d_callT1 (call_int1.or call_int_str) lf_int1 hg hm (by decide +kernel) ha (he := he)
/-! list, dict -/
@[simp] def gList : D → Res D
  | .lst xs => .ok (.lst xs)
  | .tup xs => .ok (.lst xs)
  | .dK kvs => .ok (.lst (kvs.map fun kv => match kv.1 with
    | .inl i => .int i
    | .inr s => .str s))
  | _ => .stuck
def kD : Key → D
  | .inl i => .int i
  | .inr s => .str s
theorem reps_keys {W : Wd} {H : Hp} {S : Addr → Prop} {ob : Nat → Option Addr} : ∀ {ds : List (Key × D)} {vs : List (Key × V)}, RepK W H S ob ds vs → Reps W H S ob (ds.map fun kv => match kv.1 with
    | .inl i => .int i
    | .inr s => .str s) (vs.map fun kv => kV kv.1)
  | [], _, h => by rw [show _ = [] from h]; rfl
  | (.inl k, d) :: ds, _, h => by
    obtain ⟨v, r, e, p, q⟩ := h
    rw [e]
    exact ⟨_, _, rfl, rfl, reps_keys q⟩
  | (.inr k, d) :: ds, _, h => by
    obtain ⟨v, r, e, p, q⟩ := h
    rw [e]
    exact ⟨_, _, rfl, rfl, reps_keys q⟩
abbrev rList3 (K : PySem.W.Frag) : List V → Hp → VK → Prop := fun xs H Q => (∃ p ys, xs = [.ref p] ∧ (SqL K H p ys ∨ SqT K H p ys) ∧ ∀ l, H l = none → Q (.ref l) (upd H l (.lst ys))) ∨ ∃ (a : Addr) (kvs : List (Key × V)), xs = [.ref a] ∧ Rd H a (.dK kvs) ∧ ∀ p, H p = none → Q (.ref p) (upd H p (.lst (kvs.map fun kv => kV kv.1)))
theorem lf_list {W : Wd} : LfCF W gList (rList3 W.K) := by
  intro Wx L B σ H Q x v q l
  unfold gList at l
  split at l
  · obtain ⟨a, vs, e, h, r⟩ := q
    exact .inl ⟨a, vs, by rw [e], .inl (.of h), fun z hz => l.ret (same_upd hz) hz ⟨vs, upd_same, Reps.mono (kp_new hz) _ _ r⟩⟩
  · obtain ⟨a, vs, e, h, r⟩ := q
    exact .inl ⟨a, vs, by rw [e], .inr (.of h), fun z hz => l.ret (same_upd hz) hz ⟨vs, upd_same, Reps.mono (kp_new hz) _ _ r⟩⟩
  · obtain ⟨a, vs, e, h, r⟩ := q
    exact .inr ⟨a, vs, by rw [e], h, fun z hz => l.ret (same_upd hz) hz ⟨_, upd_same, Reps.mono (kp_new hz) _ _ (reps_keys r)⟩⟩
  · exact l.elim
theorem f_list (hc : X.calm = true) (hg : Gl X "list") (hm : X.mg "list" = none) (ha : DU X Wx Ba a ma) (he : starEach [a] X.env = (false, eval a X.env) :: starEach [] X.env := by rfl) : DF X Wx Ba (.Call (.Name "list" p) [a] [] pos) (m1 ma gList) := f_callT1 (call_list_of.or (call_listD hc)) lf_list hg hm (by decide +kernel) ha (he := he)
def gDict : D → Res D
  | .dK kvs => .ok (.dK kvs)
  | _ => .stuck
theorem lf_dict {W : Wd} : LfCF W gDict (fun xs H Q => ∃ (a : Addr) (kvs : List (Key × V)), xs = [.ref a] ∧ Rd H a (.dK kvs) ∧ ∀ p, H p = none → Q (.ref p) (upd H p (.dK kvs))) := by
  intro Wx L B σ H Q x v q l
  unfold gDict at l
  split at l
  · obtain ⟨a, vs, e, h, r⟩ := q
    exact ⟨a, vs, by rw [e], h, fun z hz => l.ret (same_upd hz) hz ⟨vs, .of upd_same, RepK.mono (kp_new hz) _ _ r⟩⟩
  · exact l.elim
theorem f_dict (hg : Gl X "dict") (hm : X.mg "dict" = none) (ha : DU X Wx Ba a ma) (he : starEach [a] X.env = (false, eval a X.env) :: starEach [] X.env := by rfl) : DF X Wx Ba (.Call (.Name "dict" p) [a] [] pos) (m1 ma gDict) := f_callT1 call_dictD lf_dict hg hm (by decide +kernel) ha (he := he)
/-! sorted -/
def insI (x : Int) : List Int → List Int
  | [] => [x]
  | y :: r => if x ≤ y then x :: y :: r else y :: insI x r
def srtI : List Int → List Int
  | [] => []
  | x :: r => insI x (srtI r)
theorem insI_perm (x : Int) : ∀ l : List Int, (insI x l).Perm (x :: l)
  | [] => List.Perm.refl _
  | y :: r => by
    unfold insI
    split
    · exact List.Perm.refl _
    · exact ((insI_perm x r).cons y).trans (List.Perm.swap x y r)
theorem srtI_perm : ∀ l : List Int, (srtI l).Perm l
  | [] => List.Perm.refl _
  | x :: r => (insI_perm x _).trans ((srtI_perm r).cons x)
theorem insI_up (x : Int) : ∀ l : List Int, l.Pairwise (· ≤ ·) → (insI x l).Pairwise (· ≤ ·)
  | [], _ => by simp [insI]
  | y :: r, h => by
    unfold insI
    split
    · rename_i hxy
      refine List.pairwise_cons.mpr ⟨fun z hz => ?_, h⟩
      rcases List.mem_cons.mp hz with rfl | hz
      · exact hxy
      · exact Int.le_trans hxy ((List.pairwise_cons.mp h).1 z hz)
    · rename_i hxy
      refine List.pairwise_cons.mpr ⟨fun z hz => ?_, insI_up x r (List.pairwise_cons.mp h).2⟩
      rcases List.mem_cons.mp ((insI_perm x r).mem_iff.mp hz) with rfl | hz
      · omega
      · exact (List.pairwise_cons.mp h).1 z hz
theorem srtI_up : ∀ l : List Int, (srtI l).Pairwise (· ≤ ·)
  | [] => List.Pairwise.nil
  | x :: r => insI_up x _ (srtI_up r)
theorem sorted_eq {a b : List Int} (h : a.Perm b) (ha : a.Pairwise (· ≤ ·)) (hb : b.Pairwise (· ≤ ·)) : a = b :=
  List.Perm.eq_of_pairwise (le := (· ≤ ·)) (fun x y _ _ h1 h2 => Int.le_antisymm h1 h2) ha hb h
def gSorted : D → Res D
  | .lst xs => (match D.ints? xs with
    | some ns => .ok (.lst ((srtI ns).map .int))
    | none => .stuck)
  | .dK kvs => (match D.ints? (kvs.map fun kv => kD kv.1) with
    | some ns => if ns.length < 64 then .ok (.lst ((srtI ns).map .int)) else .stuck
    | none => .stuck)
  | _ => .stuck
abbrev rSorted2 (K : PySem.W.Frag) : List V → Hp → VK → Prop := fun xs H Q => rSortedI K xs H Q ∨ ∃ (a : Addr) (kvs : List (Key × V)) (ks : List Int), xs = [.ref a] ∧ Rd H a (.dK kvs) ∧ kvs.map (·.1) = ks.map Sum.inl ∧ ks.length < 64 ∧
    ∀ (ys : List Int) (p : Addr), ys.Perm ks → ys.Pairwise (· ≤ ·) → H p = none → Q (.ref p) (upd H p (.lst (ys.map V.int)))
theorem keysI : ∀ {kvs : List (Key × D)} {ns : List Int}, D.ints? (kvs.map fun kv => kD kv.1) = some ns → kvs.map (·.1) = ns.map Sum.inl
  | [], ns, h => by cases h; rfl
  | (.inl i, d) :: r, ns, h => by
    have h : (D.ints? (r.map fun kv => kD kv.1)).map (i :: ·) = some ns := h
    cases e : D.ints? (r.map fun kv => kD kv.1) with
    | none => rw [e] at h; cases h
    | some q =>
      rw [e] at h
      have e2 : i :: q = ns := Option.some.inj h
      rw [← e2, List.map_cons, keysI e]; rfl
  | (.inr i, d) :: r, ns, h => by cases h
theorem repK_keys {W : Wd} {H : Hp} {S : Addr → Prop} {ob : Nat → Option Addr} : ∀ {ds : List (Key × D)} {vs : List (Key × V)}, RepK W H S ob ds vs → vs.map (·.1) = ds.map (·.1)
  | [], _, h => by rw [show _ = [] from h]; rfl
  | (k, d) :: ds, _, h => by
    obtain ⟨v, r, e, p, q⟩ := h
    rw [e, List.map_cons, List.map_cons, repK_keys q]
theorem lf_sorted {W : Wd} : LfCF W gSorted (rSorted2 W.K) := by
  intro Wx L B σ H Q x v q l
  unfold gSorted at l
  split at l
  · split at l
    · rename_i ns e
      obtain ⟨a, vs, e1, h, r⟩ := q
      rw [D.ints_some e] at r
      refine .inl ⟨a, ns, by rw [e1], .of (by rw [← Reps.ints r]; exact h), fun ys z hp hs hz => ?_⟩
      rw [sorted_eq (hp.trans (srtI_perm ns).symm) hs (srtI_up ns)]
      exact l.ret (same_upd hz) hz ⟨_, upd_same, Reps.ofInts _⟩
    · exact l.elim
  · split at l
    · rename_i ns e
      split at l
      · rename_i h64
        obtain ⟨a, vs, e1, h, r⟩ := q
        refine .inr ⟨a, vs, ns, by rw [e1], h, by rw [repK_keys r]; exact keysI e, h64, fun ys z hp hs hz => ?_⟩
        rw [sorted_eq (hp.trans (srtI_perm ns).symm) hs (srtI_up ns)]
        exact l.ret (same_upd hz) hz ⟨_, upd_same, Reps.ofInts _⟩
      · exact l.elim
    · exact l.elim
  · exact l.elim
theorem f_sorted (hc : X.calm = true) (hg : Gl X "sorted") (hm : X.mg "sorted" = none) (ha : DU X Wx Ba a ma) (he : starEach [a] X.env = (false, eval a X.env) :: starEach [] X.env := by rfl) : DF X Wx Ba (.Call (.Name "sorted" p) [a] [] pos) (m1 ma gSorted) := f_callB1 (cr_sortedI.or (call_sortedDI hc)) lf_sorted hg hm (by decide +kernel) ha (he := he)
/-! all, any of a list; min of a list -/
@[simp] def gAll : D → Res D
  | .lst xs => (match D.bls? xs with
    | some bs => .ok (.bl (bs.all _root_.id))
    | none => .stuck)
  | _ => .stuck
theorem lf_all {W : Wd} : LfC W gAll (rAll W.K) := by
  intro Wx L B σ H Q x v al q l
  unfold gAll at l
  split at l
  · split at l
    · rename_i bs e
      obtain ⟨a, vs, e1, h, r⟩ := q
      rw [D.bls_some e] at r
      exact ⟨a, bs, by rw [e1], .of (by rw [← Reps.bls r]; exact h), l.ret rfl⟩
    · exact l.elim
  · exact l.elim
theorem d_all (hc : X.calm = true) (hg : Gl X "all") (hm : X.mg "all" = none) (ha : DU X Wx Ba a ma) (he : starEach [a] X.env = (false, eval a X.env) :: starEach [] X.env := by rfl) : DP X Wx Ba (.Call (.Name "all" p) [a] [] pos) (m1 ma gAll) := d_callB1 (cr_all hc) lf_all hg hm (by decide +kernel) ha (he := he)
def gMinL : D → Res D
  | .lst xs => (match D.ints? xs with
    | some (n :: ns) => .ok (.int ((n :: ns).foldl (fun a b => if b < a then b else a) n))
    | _ => .stuck)
  | _ => .stuck
theorem foldmin_le : ∀ (l : List Int) (a : Int), l.foldl (fun a b => if b < a then b else a) a ≤ a ∧ (∀ y ∈ l, l.foldl (fun a b => if b < a then b else a) a ≤ y) ∧ (l.foldl (fun a b => if b < a then b else a) a = a ∨ l.foldl (fun a b => if b < a then b else a) a ∈ l)
  | [], a => ⟨Int.le_refl _, fun y h => by simp at h, .inl rfl⟩
  | b :: l, a => by
    obtain ⟨h1, h2, h3⟩ := foldmin_le l (if b < a then b else a)
    rw [List.foldl_cons]
    refine ⟨?_, fun y hy => ?_, ?_⟩
    · refine Int.le_trans h1 ?_
      split <;> omega
    · rcases List.mem_cons.mp hy with rfl | hy
      · refine Int.le_trans h1 ?_
        split <;> omega
      · exact h2 y hy
    · rcases h3 with h3 | h3
      · rw [h3]
        split
        · exact .inr List.mem_cons_self
        · exact .inl rfl
      · exact .inr (List.mem_cons_of_mem _ h3)
theorem lf_minL {W : Wd} : LfC W gMinL (rMin W.K) := by
  intro Wx L B σ H Q x v al q l
  unfold gMinL at l
  split at l
  · split at l
    · rename_i n ns e
      obtain ⟨a, vs, e1, h, r⟩ := q
      rw [D.ints_some e] at r
      refine ⟨a, n :: ns, by rw [e1], .of (by rw [← Reps.ints r]; exact h), by simp, fun m hm hle => ?_⟩
      obtain ⟨h1, h2, h3⟩ := foldmin_le (n :: ns) n
      have em : m = (n :: ns).foldl (fun a b => if b < a then b else a) n := by
        have a1 := h2 m hm
        have a2 : m ≤ (n :: ns).foldl (fun a b => if b < a then b else a) n := by
          rcases h3 with h3 | h3
          · rw [h3]; exact hle n List.mem_cons_self
          · exact hle _ h3
        omega
      rw [em]
      exact l.ret rfl
    · exact l.elim
  · exact l.elim
theorem d_minL (hc : X.calm = true) (hg : Gl X "min") (hm : X.mg "min" = none) (ha : DU X Wx Ba a ma) (he : starEach [a] X.env = (false, eval a X.env) :: starEach [] X.env := by rfl) : DP X Wx Ba (.Call (.Name "min" p) [a] [] pos) (m1 ma gMinL) := d_callB1 (cr_min hc) lf_minL hg hm (by decide +kernel) ha (he := he)
/-! isinstance of a built-in class -/
@[simp] def D.tyN : D → Option String
  | .non => some "NoneType"
  | .bl _ => some "bool"
  | .int _ => some "int"
  | .str _ => some "str"
  | .lst _ => some "list"
  | .tup _ => some "tuple"
  | _ => none
def gIsi (T : String) (x : D) : Res D := match D.tyN x with
  | some n => (match kitB n T with
    | some b => .ok (.bl b)
    | none => .stuck)
  | none => .stuck
end
end DL
namespace DL
open PySem PySem.Spec PyProof.Rows L2

/-! ### statements: what they leave -/
inductive RS where
  | stuck
  | nx (ρ : Env') (ω : Store)
  | rt (d : D) (ω : Store)
  | bk (ρ : Env') (ω : Store)
  | ct (ρ : Env') (ω : Store)
  | er (e : Er) (ω : Store)
abbrev T := Nat → Env' → Store → RS
def FrA (L : Lc) : Addr → Prop := fun a => ∀ p, L p = some a → ∃ i, p = .sl i
def LeafS (W : Wd) (Wx : WX) (F : Fm) (G : Ends) : RS → Prop
  | .stuck => False
  | .nx ρ ω => ∀ σ H L, Rel W F ρ ω L σ H → G.nx σ H
  | .rt d ω => ∀ v ρ σ H L, Rel W F ρ ω L σ H → Rep W H (FrA L) (obs L) d v → G.rt v H
  | .bk ρ ω => ∀ σ H L, Rel W F ρ ω L σ H → G.bk σ H
  | .ct ρ ω => ∀ σ H L, Rel W F ρ ω L σ H → G.ct σ H
  | .er e ω => ∀ cls dd ρ σ H L, Rel W F ρ ω L σ H → Exc W H e cls dd → Wx cls dd σ H
def tS (W : Wd) (Wx : WX) (m : T) : TS := fun G σ H => ∃ F ρ ω L, Rel W F ρ ω L σ H ∧ LeafS W Wx F G (m F.n0 ρ ω)
structure DS (X : Cx) (Wx : WX) (st : Stmt) (m : T) : Prop where
  ps : PS X st (tS (wd X) Wx m)
structure DSs (X : Cx) (Wx : WX) (st : List Stmt) (m : T) : Prop where
  pss : PSs X st (tS (wd X) Wx m)
@[simp] def sq (m1 m2 : T) : T := fun n0 ρ ω => match m1 n0 ρ ω with
  | .nx ρ' ω' => m2 n0 ρ' ω'
  | r => r
@[simp] def sNx : T := fun _ ρ ω => .nx ρ ω
def sStuck : T := fun _ _ _ => .stuck
section
variable {X : Cx} {Wx : WX} {pos p : Pos} {a b c e : Expr} {Ba Bb Bc B : List Nat} {ma mb mc m : M} {x f : Str} {st : Stmt} {sts rest : List Stmt} {t u : T}
theorem s_nil : DSs X Wx [] sNx := ⟨PSs.weak pss_nil fun G σ H ⟨F, ρ, ω, L, R, h⟩ => h σ H L R⟩
theorem s_cons (h1 : DS X Wx st t) (h2 : DSs X Wx rest u) : DSs X Wx (st :: rest) (sq t u) :=
  ⟨PSs.weak (pss_cons h1.ps h2.pss) fun G σ H ⟨F, ρ, ω, L, R, h⟩ => ⟨F, ρ, ω, L, R, by
    unfold sq at h
    cases z : t F.n0 ρ ω with
    | stuck => rw [z] at h; exact h
    | nx ρ' ω' => rw [z] at h; exact fun σ' H' L' R' => ⟨F, ρ', ω', L', R', h⟩
    | rt d ω' => rw [z] at h; exact h
    | bk ρ' ω' => rw [z] at h; exact h
    | ct ρ' ω' => rw [z] at h; exact h
    | er e ω' => rw [z] at h; exact h⟩⟩
theorem s_one (h1 : DS X Wx st t) : DSs X Wx [st] t := ⟨pss_one h1.ps⟩
theorem s_never : DS X Wx st sStuck := ⟨PS.weak ps_never fun G σ H ⟨F, ρ, ω, L, R, h⟩ => h⟩
theorem ss_never : DSs X Wx sts sStuck := ⟨PSs.weak pss_never fun G σ H ⟨F, ρ, ω, L, R, h⟩ => h⟩
theorem s_pass : DS X Wx (.Pass pos) sNx := ⟨PS.weak ps_pass fun G σ H ⟨F, ρ, ω, L, R, h⟩ => h σ H L R⟩
theorem s_doc {x j pos'} : DS X Wx (.Expr (.Constant (.str x) j pos) pos') sNx := ⟨PS.weak ps_doc fun G σ H ⟨F, ρ, ω, L, R, h⟩ => h σ H L R⟩
theorem s_break : DS X Wx (.Break pos) (fun _ ρ ω => .bk ρ ω) := ⟨PS.weak ps_break fun G σ H ⟨F, ρ, ω, L, R, h⟩ => h σ H L R⟩
theorem s_continue : DS X Wx (.Continue pos) (fun _ ρ ω => .ct ρ ω) := ⟨PS.weak ps_continue fun G σ H ⟨F, ρ, ω, L, R, h⟩ => h σ H L R⟩
/-- an expression, then r -/
theorem leafS_bind {W : Wd} {F : Fm} {ρ : Env'} {ω : Store} {L : Lc} {σ : L2.St} {H : Hp} {G : Ends} {r : Res D} {k : D → RS} (R : Rel W F ρ ω L σ H) (h : LeafS W Wx F G (match r with
    | .stuck => .stuck
    | .err e => .er e ω
    | .ok d => k d)) {P : VK} (hP : ∀ d v H', r = .ok d → Same H H' → Rel W F ρ ω L σ H' → Rep W H' (Fr L B) (obs L) d v → LeafS W Wx F G (k d) → P v H') : Leaf W Wx L B σ H P r := by
  cases r with
  | stuck => exact h
  | err e => exact fun c d H' s x => h c d ρ σ H' L (R.same s) x
  | ok d => exact fun v H' s q => hP d v H' rfl s (R.same s) q h
@[simp] def ofE (r : Res D) (ω : Store) (k : D → RS) : RS := match r with
  | .stuck => .stuck
  | .err e => .er e ω
  | .ok d => k d
/-- return e -/
@[simp] def sRet (m : M) : T := fun _ ρ ω => ofE (m ρ ω) ω fun d => .rt d ω
theorem fr_frA {L : Lc} {a : Addr} (h : Fr L B a) : FrA L a := fun p e => by
  obtain ⟨i, _, q⟩ := h p e
  exact ⟨i, q⟩
theorem s_ret (he : DP X Wx B e m) : DS X Wx (.Return (some e) pos) (sRet m) :=
  ⟨PS.weak (ps_ret he.pe) fun G σ H ⟨F, ρ, ω, L, R, h⟩ => ⟨F, ρ, ω, L, R, leafS_bind (k := fun d => .rt d ω) R h fun d v H' _ s R' q l => l v ρ σ H' L R' (Rep.mono (Kp.sub fun a u f _ => fr_frA f) d v q)⟩⟩
theorem s_retN : DS X Wx (.Return none pos) (fun _ ρ ω => .rt .non ω) := ⟨PS.weak ps_retN fun G σ H ⟨F, ρ, ω, L, R, h⟩ => h .non ρ σ H L R rfl⟩
/-- an expression as a statement -/
@[simp] def sDrop (m : M) : T := fun _ ρ ω => ofE (m ρ ω) ω fun _ => .nx ρ ω
theorem s_expr (he : DP X Wx B e m) (hs : swapsWith e none pos.line X.env = pure false := by rfl) : DS X Wx (.Expr e pos) (sDrop m) :=
  ⟨PS.weak (ps_expr he.pe hs) fun G σ H ⟨F, ρ, ω, L, R, h⟩ => ⟨F, ρ, ω, L, R, leafS_bind (k := fun _ => .nx ρ ω) R h fun d v H' _ s R' q l => l σ H' L R'⟩⟩
/-- if -/
@[simp] def sIf (mt : Env' → Store → Res Bool) (t u : T) : T := fun n0 ρ ω => match mt ρ ω with
  | .stuck => .stuck
  | .err e => .er e ω
  | .ok k => if k = true then t n0 ρ ω else u n0 ρ ω
theorem s_if {mt : Env' → Store → Res Bool} (hc : DB X Wx c mt) (ha : DSs X Wx sts t) (hb : DSs X Wx rest u) : DS X Wx (.If c sts rest pos) (sIf mt t u) :=
  ⟨PS.weak (ps_if hc.pt ha.pss hb.pss) fun G σ H ⟨F, ρ, ω, L, R, h⟩ => ⟨F, ρ, ω, L, R, by
    unfold sIf at h
    cases z : mt ρ ω with
    | stuck => rw [z] at h; exact h
    | err e => rw [z] at h; exact fun c d H' s x => h c d ρ σ H' L (R.same s) x
    | ok k =>
      rw [z] at h
      intro H' s
      cases k with
      | true => exact ⟨F, ρ, ω, L, R.same s, h⟩
      | false => exact ⟨F, ρ, ω, L, R.same s, h⟩⟩⟩
end

/-! ### values without containers -/
mutual
@[simp] def D.free : D → Bool
  | .non => true
  | .bl _ => true
  | .int _ => true
  | .str _ => true
  | .tup xs => D.frees xs
  | .ctup xs => D.frees xs
  | .obj _ => true
  | .lst _ => false
  | .dK _ => false
  | .dT _ => false
  | .ins _ _ => false
@[simp] def D.frees : List D → Bool
  | [] => true
  | d :: r => D.free d && D.frees r
end
section
variable {W : Wd} {H : Hp} {S S' : Addr → Prop} {ob : Nat → Option Addr}
mutual
theorem D.free_rep : ∀ (d : D) (v : V), D.free d = true → Rep W H S ob d v → Rep W H S' ob d v
  | .non, _, _, h => h
  | .bl _, _, _, h => h
  | .int _, _, _, h => h
  | .str _, _, _, h => h
  | .tup xs, v, e, ⟨a, vs, e1, h1, q⟩ => ⟨a, vs, e1, h1, D.frees_rep xs vs e q⟩
  | .ctup xs, v, e, ⟨a, vs, e1, h1, q⟩ => ⟨a, vs, e1, h1, D.frees_rep xs vs e q⟩
  | .obj _, _, _, h => h
  | .lst _, _, e, _ => by cases e
  | .dK _, _, e, _ => by cases e
  | .dT _, _, e, _ => by cases e
  | .ins _ _, _, e, _ => by cases e
theorem D.frees_rep : ∀ (d : List D) (v : List V), D.frees d = true → Reps W H S ob d v → Reps W H S' ob d v
  | [], _, _, h => h
  | d :: ds, _, e, ⟨v, r, e1, p, q⟩ => by
    have e : (D.free d && D.frees ds) = true := e
    rw [Bool.and_eq_true] at e
    exact ⟨v, r, e1, D.free_rep d v e.1 p, D.frees_rep ds r e.2 q⟩
end
end
/-- a container whose items are such -/
@[simp] def D.inFree : D → Bool
  | .lst xs => D.frees xs
  | .dK kvs => kvs.all fun kv => D.free kv.2
  | .dT kvs => kvs.all fun kv => D.free kv.2
  | _ => false
theorem repK_free {W : Wd} {H : Hp} {S S' : Addr → Prop} {ob : Nat → Option Addr} : ∀ {kvs : List (Key × D)} {vs : List (Key × V)}, (kvs.all fun kv => D.free kv.2) = true → RepK W H S ob kvs vs → RepK W H S' ob kvs vs
  | [], _, _, h => h
  | (k, d) :: r, _, e, ⟨v, t, e1, p, q⟩ => by
    rw [List.all_cons, Bool.and_eq_true] at e
    exact ⟨v, t, e1, D.free_rep d v e.1 p, repK_free e.2 q⟩
theorem repT_free {W : Wd} {H : Hp} {S S' : Addr → Prop} {ob : Nat → Option Addr} : ∀ {kvs : List (List Key × D)} {vs : List (List Key × V)}, (kvs.all fun kv => D.free kv.2) = true → RepT W H S ob kvs vs → RepT W H S' ob kvs vs
  | [], _, _, h => h
  | (k, d) :: r, _, e, ⟨v, t, e1, p, q⟩ => by
    rw [List.all_cons, Bool.and_eq_true] at e
    exact ⟨v, t, e1, D.free_rep d v e.1 p, repT_free e.2 q⟩
theorem inFree_repO {W : Wd} {H : Hp} {S S' : Addr → Prop} {ob : Nat → Option Addr} {ex : Bool} : ∀ {d : D} {a : Addr}, D.inFree d = true → RepO W H S ob ex d a → RepO W H S' ob ex d a
  | .lst xs, a, e, ⟨vs, h, q⟩ => ⟨vs, h, D.frees_rep xs vs e q⟩
  | .dK xs, a, e, ⟨vs, h, q⟩ => ⟨vs, h, repK_free e q⟩
  | .dT xs, a, e, ⟨vs, h, q⟩ => ⟨vs, h, repT_free e q⟩
  | .non, _, e, _ | .bl _, _, e, _ | .int _, _, e, _ | .str _, _, e, _ | .tup _, _, e, _ | .ctup _, _, e, _ | .ins _ _, _, e, _ | .obj _, _, e, _ => by cases e

/-! ### slots that no longer own -/
def dmS (B : List Nat) (j : Nat) (s : Sl) : Sl := if j ∈ B then (match s with
  | .own d => .val d
  | s => s) else s
def demote (B : List Nat) (ρ : Env') : Env' := ρ.mapIdx (dmS B)
def lcD (B : List Nat) (L : Lc) : Lc := fun p => match p with
  | .sl i => if i ∈ B then none else L (.sl i)
  | p => L p
theorem lcD_some {B : List Nat} {L : Lc} {p : Pl} {a : Addr} (h : lcD B L p = some a) : L p = some a ∧ ∀ i, p = .sl i → i ∉ B := by
  cases p with
  | sl i =>
    have h : (if i ∈ B then none else L (.sl i)) = some a := h
    split at h
    · cases h
    · rename_i hb
      exact ⟨h, fun j e => by cases e; exact hb⟩
  | fd n f => exact ⟨h, fun j e => by cases e⟩
  | ob n => exact ⟨h, fun j e => by cases e⟩
  | fg b => exact ⟨h, fun j e => by cases e⟩
theorem Fr.dem {B : List Nat} {L : Lc} {a : Addr} (h : Fr L B a) : Fr (lcD B L) [] a := fun p e => by
  obtain ⟨e1, e2⟩ := lcD_some e
  obtain ⟨i, m, q⟩ := h p e1
  exact absurd m (e2 i q)
theorem Fr.dem0 {B : List Nat} {L : Lc} {a : Addr} (h : Fr L [] a) : Fr (lcD B L) [] a := fun p e => h p (lcD_some e).1
theorem kp_dem {W : Wd} {H : Hp} {B : List Nat} {L : Lc} : Kp H H (Fr L B) (Fr (lcD B L) []) (obs L) (obs (lcD B L)) := ⟨fun a u f _ => f.dem, fun _ _ _ h => h, fun _ _ h => h, fun n a h => h⟩
theorem kp_dem0 {W : Wd} {H : Hp} {B : List Nat} {L : Lc} : Kp H H (Fr L []) (Fr (lcD B L) []) (obs L) (obs (lcD B L)) := ⟨fun a u f _ => f.dem0, fun _ _ _ h => h, fun _ _ h => h, fun n a h => h⟩
theorem RepO.mono {W : Wd} {H H' : Hp} {S S' : Addr → Prop} {ob ob' : Nat → Option Addr} {ex ex' : Bool} (k : Kp H H' S S' ob ob') {a : Addr} (ka : ∀ u, AtE ex H a u → AtE ex' H' a u) (kl : ∀ xs, H a = some (.lst xs) → H' a = some (.lst xs)) : ∀ {d : D}, RepO W H S ob ex d a → RepO W H' S' ob' ex' d a
  | .lst xs, ⟨vs, h, q⟩ => ⟨vs, kl _ h, Reps.mono k xs vs q⟩
  | .dK xs, ⟨vs, h, q⟩ => ⟨vs, ka _ h, RepK.mono k xs vs q⟩
  | .dT xs, ⟨vs, h, q⟩ => ⟨vs, ka _ h, RepT.mono k xs vs q⟩
  | .non, h | .bl _, h | .int _, h | .str _, h | .tup _, h | .ctup _, h | .ins _ _, h | .obj _, h => h.elim
/-- the same heap, other places, all but one place as it was -/
theorem SltR.places {W : Wd} {H : Hp} {L L' : Lc} {p : Pl} {ex : Bool} (k : Kp H H (Fr L []) (Fr L' []) (obs L) (obs L')) (hp : L' p = L p) : ∀ {s : Sl} {v : Option V}, SltR W H L p ex s v → SltR W H L' p ex s v
  | .no, _, _ => trivial
  | .val d, v, ⟨x, e, h⟩ => ⟨x, e, Rep.mono k d x h⟩
  | .own d, v, ⟨a, e, l, h⟩ => ⟨a, e, hp.trans l, RepO.mono k (fun _ h => h) (fun _ h => h) h⟩
theorem FsR.places {W : Wd} {H : Hp} {L L' : Lc} {n : Nat} {ex : Bool} (k : Kp H H (Fr L []) (Fr L' []) (obs L) (obs L')) (hp : ∀ f, L' (.fd n f) = L (.fd n f)) : ∀ {fs : List (Str × Sl)} {vs : List (Str × V)}, FsR W H L n ex fs vs → FsR W H L' n ex fs vs
  | [], _, h => h
  | (f, x) :: r, _, ⟨v, t, e, h, q⟩ => ⟨v, t, e, SltR.places k (hp f) h, FsR.places k hp q⟩
theorem ObR.places {W : Wd} {H : Hp} {L L' : Lc} {n : Nat} {ex : Bool} {o : Ob} (k : Kp H H (Fr L []) (Fr L' []) (obs L) (obs L')) (hp : ∀ f, L' (.fd n f) = L (.fd n f)) (h : ObR W H L ex n o) : ObR W H L' ex n o := by
  obtain ⟨p, C, dx, fs, e1, e2, e3, q⟩ := h.at_
  exact ⟨p, C, dx, fs, k.o n p e1, e2, e3, FsR.places k hp q⟩
section
variable {W : Wd} {F : Fm} {ρ : Env'} {ω : Store} {L : Lc} {σ : L2.St} {H : Hp}
theorem Rel.demote (R : Rel W F ρ ω L σ H) (B : List Nat) : Rel W F (demote B ρ) ω (lcD B L) σ H where
  inj := fun p q a e1 e2 => R.inj p q a (lcD_some e1).1 (lcD_some e2).1
  alive := fun p a e => R.alive p a (lcD_some e).1
  aft := ⟨R.aft.keep, fun i a e => R.aft.newS i a (lcD_some e).1, fun p a m e => R.aft.newM p a m (lcD_some e).1, fun p m => by
    cases p with
    | sl i => exact absurd trivial m
    | fd n f => exact R.aft.prot _ m
    | ob n => exact R.aft.prot _ m
    | fg b => exact R.aft.prot _ m, R.aft.obk, R.aft.there⟩
  fgs := R.fgs
  len := by unfold DL.demote; rw [List.length_mapIdx]; exact R.len
  sl := fun i s e => by
    unfold DL.demote at e
    rw [List.getElem?_mapIdx] at e
    cases z : ρ[i]? with
    | none => rw [z] at e; cases e
    | some s0 =>
      rw [z] at e
      have e : dmS B i s0 = s := Option.some.inj e
      have q := R.sl i s0 z
      by_cases hb : i ∈ B
      · unfold dmS at e
        rw [if_pos hb] at e
        cases s0 with
        | no => subst e; trivial
        | val d =>
          subst e
          obtain ⟨x, e1, r⟩ := q
          exact ⟨x, e1, Rep.mono (kp_dem0 (W := W)) d x r⟩
        | own d =>
          subst e
          obtain ⟨a, e1, l, r⟩ := q
          refine ⟨.ref a, e1, ?_⟩
          have r1 := R.own_rep l r
          refine Rep.mono ⟨fun b u f _ => ?_, fun _ _ _ h => h, fun _ _ h => h, fun n b h => h⟩ d _ r1
          intro p ep
          obtain ⟨e2, e3⟩ := lcD_some ep
          obtain ⟨j, m, q⟩ := f p e2
          have : j = i := by simpa using m
          subst this
          exact absurd hb (e3 j q)
      · rw [show dmS B i s0 = s0 from if_neg hb] at e
        subst e
        exact SltR.places (kp_dem0 (W := W)) (by show (if i ∈ B then none else L (.sl i)) = _; rw [if_neg hb]) q
  st := fun n o e => ObR.places (kp_dem0 (W := W)) (fun f => rfl) (R.st n o e)
  dom := R.dom
/-- a place is given to a slot -/
def lcS (L : Lc) (i : Nat) (o : Option Addr) : Lc := fun p => if p = .sl i then o else L p
end
/-- places and heap move on -/
theorem SltR.move {W : Wd} {H H' : Hp} {L L' : Lc} {p : Pl} {ex : Bool} (k : Kp H H' (Fr L []) (Fr L' []) (obs L) (obs L')) (s : Same H H') (hp : L' p = L p) : ∀ {x : Sl} {v : Option V}, SltR W H L p ex x v → SltR W H' L' p ex x v
  | .no, _, _ => trivial
  | .val d, v, ⟨x, e, h⟩ => ⟨x, e, Rep.mono k d x h⟩
  | .own d, v, ⟨a, e, l, h⟩ => ⟨a, e, hp.trans l, RepO.mono k (fun _ h => h.same s) (fun _ h => s _ _ h) h⟩
theorem FsR.move {W : Wd} {H H' : Hp} {L L' : Lc} {n : Nat} {ex : Bool} (k : Kp H H' (Fr L []) (Fr L' []) (obs L) (obs L')) (s : Same H H') (hp : ∀ f, L' (.fd n f) = L (.fd n f)) : ∀ {fs : List (Str × Sl)} {vs : List (Str × V)}, FsR W H L n ex fs vs → FsR W H' L' n ex fs vs
  | [], _, h => h
  | (f, x) :: r, _, ⟨v, t, e, h, q⟩ => ⟨v, t, e, SltR.move k s (hp f) h, FsR.move k s hp q⟩
theorem ObR.move {W : Wd} {H H' : Hp} {L L' : Lc} {n : Nat} {ex : Bool} {o : Ob} (k : Kp H H' (Fr L []) (Fr L' []) (obs L) (obs L')) (s : Same H H') (hp : ∀ f, L' (.fd n f) = L (.fd n f)) (h : ObR W H L ex n o) : ObR W H' L' ex n o := by
  obtain ⟨p, C, dx, fs, e1, e2, e3, q⟩ := h.at_
  exact ⟨p, C, dx, fs, k.o n p e1, e2, s _ _ e3, FsR.move k s hp q⟩
section
variable {W : Wd} {F : Fm} {ρ : Env'} {ω : Store} {L : Lc} {σ : L2.St} {H H' : Hp}
theorem lcS_ne {i : Nat} {o : Option Addr} {p : Pl} (h : p ≠ .sl i) : lcS L i o p = L p := if_neg h
theorem lcS_eq {i : Nat} {o : Option Addr} : lcS L i o (.sl i) = o := if_pos rfl
theorem set_join {i j : Nat} {v : V} (hi : i < σ.length) : ((σ.set i (some v))[j]?).join = if j = i then some v else (σ[j]?).join := by
  by_cases e : j = i
  · subst e
    rw [List.getElem?_set_self hi, if_pos rfl]; rfl
  · rw [List.getElem?_set_ne (Ne.symm e), if_neg e]
theorem Rel.put (R : Rel W F ρ ω L σ H) (s : Same H H') {i : Nat} {x : Sl} {v : V} {o : Option Addr} (hi : i < ρ.length) (k : Kp H H' (Fr L []) (Fr (lcS L i o) []) (obs L) (obs (lcS L i o)))
    (ho : ∀ a, o = some a → H a = none ∧ ∃ u, H' a = some u ∧ isC u = true) (hx : SltR W H' (lcS L i o) (.sl i) true x (some v)) : Rel W F (ρ.set i x) ω (lcS L i o) (σ.set i (some v)) H' := by
  have hσ : i < σ.length := by rw [R.len]; exact hi
  have apart : ∀ {p : Pl} {a : Addr}, p ≠ .sl i → lcS L i o p = some a → o ≠ some a := fun {p a} np e z => by
    rw [lcS_ne np] at e
    obtain ⟨u, h, _⟩ := R.alive p a e
    rw [(ho a z).1] at h; cases h
  refine ⟨fun p q a e1 e2 => ?_, fun p a e => ?_, ⟨fun a u h hp => s a u (R.aft.keep a u h hp), fun j a e => ?_, fun p a m e => ?_, fun p m => ?_, fun n a h => ?_, fun a u h => ?_⟩, fun a b e => R.fgs a b (by rw [lcS_ne (fun z => by cases z)] at e; exact e), by rw [List.length_set, List.length_set]; exact R.len, fun j y e => ?_, fun n b e => ?_, fun n h => ⟨by rw [lcS_ne (fun z => by cases z)]; exact (R.dom n h).1, fun f => by rw [lcS_ne (fun z => by cases z)]; exact (R.dom n h).2 f⟩⟩
  · by_cases h1 : p = .sl i
    · by_cases h2 : q = .sl i
      · rw [h1, h2]
      · subst h1
        rw [lcS_eq] at e1
        exact absurd e1 (apart h2 e2)
    · by_cases h2 : q = .sl i
      · subst h2
        rw [lcS_eq] at e2
        exact absurd e2 (apart h1 e1)
      · rw [lcS_ne h1] at e1
        rw [lcS_ne h2] at e2
        exact R.inj p q a e1 e2
  · by_cases h1 : p = .sl i
    · subst h1
      rw [lcS_eq] at e
      exact (ho a e).2
    · rw [lcS_ne h1] at e
      obtain ⟨u, h, c⟩ := R.alive p a e
      exact ⟨u, s a u h, c⟩
  · by_cases h1 : j = i
    · subst h1
      rw [lcS_eq] at e
      exact .inr (R.aft.fresh (ho a e).1)
    · rw [lcS_ne (fun z => h1 (by cases z; rfl))] at e
      exact R.aft.newS j a e
  · rw [lcS_ne (fun z => by rw [z] at m; exact m)] at e
    exact R.aft.newM p a m e
  · rw [lcS_ne (fun z => m (by rw [z]; trivial))]
    exact R.aft.prot p m
  · rw [lcS_ne (fun z => by cases z)]
    exact R.aft.obk n a h
  · obtain ⟨v, q⟩ := R.aft.there a u h
    exact ⟨v, s a v q⟩
  · rw [set_join hσ]
    by_cases h1 : j = i
    · subst h1
      rw [if_pos rfl]
      rw [List.getElem?_set_self hi] at e
      cases e
      exact hx
    · rw [if_neg h1]
      rw [List.getElem?_set_ne (Ne.symm h1)] at e
      exact SltR.move k s (lcS_ne (fun z => h1 (by cases z; rfl))) (R.sl j y e)
  · exact ObR.move k s (fun f => lcS_ne (fun z => by cases z)) (R.st n b e)
theorem kp_none {i : Nat} (s : Same H H') : Kp H H' (Fr L []) (Fr (lcS L i none) []) (obs L) (obs (lcS L i none)) where
  s := fun a u f _ p e => by
    by_cases h : p = .sl i
    · subst h; rw [lcS_eq] at e; cases e
    · rw [lcS_ne h] at e; exact f p e
  k := fun a u _ h => s a u h
  t := fun a xs h => s a _ h
  o := fun n a h => by show lcS L i none (.ob n) = _; rw [lcS_ne (fun z => by cases z)]; exact h
theorem kp_own {i : Nat} {a : Addr} (s : Same H H') (n : H a = none) : Kp H H' (Fr L []) (Fr (lcS L i (some a)) []) (obs L) (obs (lcS L i (some a))) where
  s := fun b u f hb p e => by
    by_cases h : p = .sl i
    · subst h
      rw [lcS_eq] at e
      cases e
      rw [n] at hb; cases hb
    · rw [lcS_ne h] at e; exact f p e
  k := fun a u _ h => s a u h
  t := fun a xs h => s a _ h
  o := fun n b h => by show lcS L i (some a) (.ob n) = _; rw [lcS_ne (fun z => by cases z)]; exact h
theorem Rel.putVal (R : Rel W F ρ ω L σ H) {i : Nat} {d : D} {v : V} (hi : i < ρ.length) (r : Rep W H (Fr L []) (obs L) d v) : Rel W F (ρ.set i (.val d)) ω (lcS L i none) (σ.set i (some v)) H :=
  R.put (Same.refl H) hi (kp_none (Same.refl H)) (fun a e => by cases e) ⟨v, rfl, Rep.mono (kp_none (Same.refl H)) d v r⟩
/-- what stands in a slot from now on: a value met in B -/
@[simp] def dem (B : List Nat) (d : D) (ρ : Env') : Env' := if D.free d = true then ρ else DL.demote B ρ
@[simp] def demO (B : List Nat) (d : D) (ρ : Env') : Env' := if D.inFree d = true then ρ else DL.demote B ρ
theorem demote_len {B : List Nat} : (DL.demote B ρ).length = ρ.length := by unfold DL.demote; rw [List.length_mapIdx]
theorem Rel.store (R : Rel W F ρ ω L σ H) {B : List Nat} {i : Nat} {d : D} {v : V} (hi : i < ρ.length) (r : Rep W H (Fr L B) (obs L) d v) : ∃ L', Rel W F ((dem B d ρ).set i (.val d)) ω L' (σ.set i (some v)) H := by
  unfold dem
  split
  · rename_i f
    exact ⟨_, R.putVal hi (D.free_rep d v f r)⟩
  · exact ⟨_, (R.demote B).putVal (by rw [demote_len]; exact hi) (Rep.mono (kp_dem (W := W)) d v r)⟩
theorem isC_repO {S : Addr → Prop} {ob : Nat → Option Addr} : ∀ {d : D} {a : Addr}, RepO W H S ob true d a → ∃ u, H a = some u ∧ isC u = true
  | .lst xs, a, ⟨vs, h, q⟩ => ⟨_, h, rfl⟩
  | .dK xs, a, ⟨vs, h, q⟩ => ⟨_, h.1 rfl, rfl⟩
  | .dT xs, a, ⟨vs, h, q⟩ => ⟨_, h.1 rfl, rfl⟩
  | .non, _, h | .bl _, _, h | .int _, _, h | .str _, _, h | .tup _, _, h | .ctup _, _, h | .ins _ _, _, h | .obj _, _, h => h.elim
theorem Rel.storeO (R : Rel W F ρ ω L σ H) (s : Same H H') {B : List Nat} {i : Nat} {d : D} {a : Addr} (hi : i < ρ.length) (n : H a = none) (r : RepO W H' (Fn L B a) (obs L) true d a) : ∃ L', Rel W F ((demO B d ρ).set i (.own d)) ω L' (σ.set i (some (.ref a))) H' := by
  unfold demO
  split
  · rename_i f
    refine ⟨_, R.put s (o := some a) hi (kp_own s n) (fun b e => by cases e; exact ⟨n, isC_repO r⟩) ⟨a, rfl, lcS_eq, ?_⟩⟩
    refine RepO.mono (S := Fr (lcS L i (some a)) []) (ob := obs L) ⟨fun _ _ f _ => f, fun _ _ _ h => h, fun _ _ h => h, fun m b h => ?_⟩ (fun _ h => h) (fun _ h => h) (inFree_repO f r)
    show lcS L i (some a) (.ob m) = _; rw [lcS_ne (fun z => by cases z)]; exact h
  · refine ⟨_, (R.demote B).put s (o := some a) (by rw [demote_len]; exact hi) (kp_own s n) (fun b e => by cases e; exact ⟨n, isC_repO r⟩) ⟨a, rfl, lcS_eq, ?_⟩⟩
    refine RepO.mono (S := Fn L B a) (ob := obs L) ⟨fun b u f _ p e => ?_, fun _ _ _ h => h, fun _ _ h => h, fun m b h => ?_⟩ (fun _ h => h) (fun _ h => h) r
    · by_cases h : p = .sl i
      · subst h
        rw [lcS_eq] at e
        cases e
        exact absurd rfl f.2
      · rw [lcS_ne h] at e
        exact f.1.dem p e
    · show lcS (lcD B L) i (some a) (.ob m) = _; rw [lcS_ne (fun z => by cases z)]; exact h
end

/-! ### name = value -/
section
variable {X : Cx} {Wx : WX} {pos p : Pos} {a b c e : Expr} {Ba Bb Bc B : List Nat} {ma mb mc m : M} {x f : Str} {i : Nat}
@[simp] def sSet (i : Nat) (B : List Nat) (m : M) : T := fun _ ρ ω => ofE (m ρ ω) ω fun d => if i < ρ.length then .nx ((dem B d ρ).set i (.val d)) ω else .stuck
theorem s_set (hN : X.N.Nodup) (hi : X.N[i]? = some x) (hx : Loc X.env.scope x) (he : DP X Wx B e m) (hs : swapsWith e (some (.Name x p)) pos.line X.env = pure false := by rfl) (hf : X.fn x = true ∨ X.env.scope.names.lookup x = some .local := by first | exact .inl rfl | exact .inr rfl | assumption) :
    DS X Wx (.Assign [.Name x p] e pos) (sSet i B m) :=
  ⟨PS.weak (ps_set hN hi hx he.pe hs hf) fun G σ H ⟨F, ρ, ω, L, R, h⟩ => ⟨F, ρ, ω, L, R, leafS_bind (k := fun d => if i < ρ.length then .nx ((dem B d ρ).set i (.val d)) ω else .stuck) R h fun d v H' _ s R' q l => by
    split at l
    · rename_i hl
      obtain ⟨L', R2⟩ := R'.store (B := B) hl q
      exact l _ H' L' R2
    · exact l.elim⟩⟩
@[simp] def sSetO (i : Nat) (B : List Nat) (m : M) : T := fun _ ρ ω => ofE (m ρ ω) ω fun d => if i < ρ.length then .nx ((demO B d ρ).set i (.own d)) ω else .stuck
theorem s_setO (hN : X.N.Nodup) (hi : X.N[i]? = some x) (hx : Loc X.env.scope x) (he : DF X Wx B e m) (hs : swapsWith e (some (.Name x p)) pos.line X.env = pure false := by rfl) (hf : X.fn x = true ∨ X.env.scope.names.lookup x = some .local := by first | exact .inl rfl | exact .inr rfl | assumption) :
    DS X Wx (.Assign [.Name x p] e pos) (sSetO i B m) :=
  ⟨PS.weak (ps_set hN hi hx he.pe hs hf) fun G σ H ⟨F, ρ, ω, L, R, h⟩ => ⟨F, ρ, ω, L, R, by
    unfold sSetO ofE at h
    cases z : m ρ ω with
    | stuck => rw [z] at h; exact h
    | err e => rw [z] at h; exact fun c d H' s x => h c d ρ σ H' L (R.same s) x
    | ok d =>
      rw [z] at h
      intro a H' s n r
      replace h : LeafS (wd X) Wx F G (if i < ρ.length then .nx ((demO B d ρ).set i (.own d)) ω else .stuck) := h
      split at h
      · rename_i hl
        obtain ⟨L', R2⟩ := R.storeO s (B := B) hl n r
        exact h _ H' L' R2
      · exact h.elim⟩⟩
/-! name += number -/
@[simp] def sAugI (i : Nat) (m : M) : T := fun _ ρ ω => match ρ[i]? with
  | some (.val (.int x)) => ofE (m ρ ω) ω fun d => match d with
    | .int y => .nx (ρ.set i (.val (.int (x + y)))) ω
    | _ => .stuck
  | _ => .stuck
theorem s_augI (hN : X.N.Nodup) (hi : X.N[i]? = some x) (hx : Loc X.env.scope x) (he : DP X Wx B e m) (hf : X.fn x = true ∨ X.env.scope.names.lookup x = some .local := by first | exact .inl rfl | exact .inr rfl | assumption) :
    DS X Wx (.AugAssign (.Name x p) .Add e pos) (sAugI i m) :=
  ⟨PS.weak (ps_aug hN hi hx he.pe ip_add hf) fun G σ H ⟨F, ρ, ω, L, R, h⟩ => by
    unfold sAugI at h
    split at h
    · rename_i z ez
      have q := R.sl i _ ez
      obtain ⟨v, e1, r⟩ := q
      have e2 : σ[i]? = some (some v) := by
        cases w : σ[i]? with
        | none => rw [w] at e1; cases e1
        | some y => rw [w] at e1; exact congrArg some e1
      have hl : i < ρ.length := (List.getElem?_eq_some_iff.mp ez).1
      refine ⟨v, e2, F, ρ, ω, L, R, leafS_bind (k := fun d => match d with
        | .int y => .nx (ρ.set i (.val (.int (z + y)))) ω
        | _ => .stuck) R h fun d y H' _ s R' q l => ?_⟩
      split at l
      · exact ⟨z, _, r, q, l _ H' _ (R'.putVal hl rfl)⟩
      · exact l.elim
    · exact h.elim⟩
end
end DL
namespace DL
open PySem PySem.Spec PyProof.Rows L2

/-- frozen things stay -/
theorem Aft.kp {n0 : Nat} {L L' : Lc} {H H' : Hp} (x : Aft n0 L H L' H') (al : ∀ p a, L p = some a → ∃ u, H a = some u ∧ isC u = true) : Kp H H' (Fr L []) (Fr L' []) (obs L) (obs L') where
  s := fun b u f hb p e => by
    by_cases m : Mt n0 p
    · rcases x.new p b m e with ⟨q, _, eq⟩ | z
      · obtain ⟨j, hj, _⟩ := f q eq; cases hj
      · rw [hb] at z; cases z
    · rw [x.prot p m] at e
      exact f p e
  k := fun b u f hb => x.keep b u hb fun p e _ => by
    obtain ⟨i, m, _⟩ := f p e
    cases m
  t := fun b xs hb => x.keep b _ hb fun p e _ => by
    obtain ⟨u, h, c⟩ := al p b e
    rw [hb] at h
    cases h
    cases c
  o := fun n a h => x.obk n a h
section
variable {W : Wd} {F : Fm} {ρ ρ' : Env'} {ω ω' : Store} {L L' : Lc} {σ σ' : L2.St} {H H' : Hp}
abbrev Fm.at (F : Fm) (L : Lc) (H : Hp) : Fm := ⟨F.n0, L, H⟩
theorem Rel.sub (R : Rel W F ρ ω L σ H) : Rel W (F.at L H) ρ ω L σ H := ⟨R.inj, R.alive, Aft.refl, R.fgs, R.len, R.sl, R.st, R.dom⟩
theorem Rel.up (R : Rel W F ρ ω L σ H) (R' : Rel W (F.at L H) ρ' ω' L' σ' H') : Rel W F ρ' ω' L' σ' H' := ⟨R'.inj, R'.alive, R.aft.trans R'.aft, R'.fgs, R'.len, R'.sl, R'.st, R'.dom⟩
theorem LeafS.sub {Wx : WX} {G G' : Ends} {r : RS} (R : Rel W F ρ ω L σ H) (h : LeafS W Wx F G r) (hn : ∀ ρ' ω' σ' H' L', r = .nx ρ' ω' → Rel W (F.at L H) ρ' ω' L' σ' H' → G'.nx σ' H') (hc : ∀ ρ' ω' σ' H' L', r = .ct ρ' ω' → Rel W (F.at L H) ρ' ω' L' σ' H' → G'.ct σ' H')
    (hb : ∀ ρ' ω' σ' H' L', r = .bk ρ' ω' → Rel W (F.at L H) ρ' ω' L' σ' H' → G'.bk σ' H') (hr : G'.rt = G.rt) : LeafS W Wx (F.at L H) G' r := by
  cases r with
  | stuck => exact h
  | nx ρ' ω' => exact fun σ' H' L' R' => hn ρ' ω' σ' H' L' rfl R'
  | ct ρ' ω' => exact fun σ' H' L' R' => hc ρ' ω' σ' H' L' rfl R'
  | bk ρ' ω' => exact fun σ' H' L' R' => hb ρ' ω' σ' H' L' rfl R'
  | rt d ω' => exact fun v ρ' σ' H' L' R' q => by rw [hr]; exact h v ρ' σ' H' L' (R.up R') q
  | er e ω' => exact fun c d ρ' σ' H' L' R' x => h c d ρ' σ' H' L' (R.up R') x
end

/-! ### while -/
def mWh (tst : Env' → Store → Res Bool) (body : T) : Nat → T
  | 0 => fun _ _ _ => .stuck
  | k + 1 => fun n0 ρ ω => match tst ρ ω with
    | .stuck => .stuck
    | .err e => .er e ω
    | .ok false => .nx ρ ω
    | .ok true => match body n0 ρ ω with
      | .nx ρ' ω' => mWh tst body k n0 ρ' ω'
      | .ct ρ' ω' => mWh tst body k n0 ρ' ω'
      | .bk ρ' ω' => .nx ρ' ω'
      | r => r
section
variable {X : Cx} {Wx : WX} {pos p : Pos} {a b c e : Expr} {Ba Bb Bc B : List Nat} {ma mb mc m : M} {x f : Str} {i : Nat} {st : Stmt} {sts rest : List Stmt} {t u : T}
theorem s_while (k : Nat) {mt : Env' → Store → Res Bool} (hp : PassesOwn (model X.prog X.w) X.A X.env X.xe) (hc : DB X Wx c mt) (hb : DSs X Wx sts t) : DS X Wx (.While c sts [] pos) (mWh mt t k) :=
  ⟨PS.weak (ps_while hp hc.pt hb.pss) fun G σ H ⟨F, ρ, ω, L, R, h⟩ => by
    refine ⟨fun k σ H => ∃ ρ ω L, Rel (wd X) F ρ ω L σ H ∧ LeafS (wd X) Wx F G (mWh mt t k F.n0 ρ ω), ⟨k, ρ, ω, L, R, h⟩, ?_⟩
    rintro k σ H ⟨ρ, ω, L, R, h⟩
    refine ⟨F, ρ, ω, L, R, ?_⟩
    cases k with
    | zero => exact h.elim
    | succ k =>
      unfold mWh at h
      cases z : mt ρ ω with
      | stuck => rw [z] at h; exact h
      | err e => rw [z] at h; exact fun c d H' s x => h c d ρ σ H' L (R.same s) x
      | ok kk =>
        rw [z] at h
        intro H1 s1
        have R1 := R.same s1
        cases kk with
        | false => exact h σ H1 L R1
        | true =>
          refine ⟨fun σ' H' => ∃ ρ' ω' L', Rel (wd X) F ρ' ω' L' σ' H' ∧ LeafS (wd X) Wx F G (mWh mt t k F.n0 ρ' ω'), fun σ' H' q => ⟨k, Nat.lt_succ_self k, q⟩, F, ρ, ω, L, R1, ?_⟩
          replace h : LeafS (wd X) Wx F G (match t F.n0 ρ ω with
            | .nx ρ' ω' => mWh mt t k F.n0 ρ' ω'
            | .ct ρ' ω' => mWh mt t k F.n0 ρ' ω'
            | .bk ρ' ω' => .nx ρ' ω'
            | r => r) := h
          cases zb : t F.n0 ρ ω with
          | stuck => rw [zb] at h; exact h
          | nx ρ' ω' => rw [zb] at h; exact fun σ' H' L' R' => ⟨ρ', ω', L', R', h⟩
          | ct ρ' ω' => rw [zb] at h; exact fun σ' H' L' R' => ⟨ρ', ω', L', R', h⟩
          | bk ρ' ω' => rw [zb] at h; exact h
          | rt d ω' => rw [zb] at h; exact h
          | er e ω' => rw [zb] at h; exact h⟩
end

/-! ### what is walked -/
structure Walks (W : Wd) (J : It) (xs : List D) (P : (Addr → Prop) → (Nat → Option Addr) → Hp → Prop) : Prop where
  go : ∀ S ob i H, P S ob H → i < xs.length → J.go i H
  yld : ∀ S ob i H x H', P S ob H → J.yld i H x H' → i < xs.length → Same H H' ∧ ∃ d, xs[i]? = some d ∧ Rep W H' S ob d x
  stop : ∀ S ob i H, P S ob H → xs.length ≤ i → J.stop i H
  kp : ∀ S S' ob ob' H H', P S ob H → Kp H H' S S' ob ob' → P S' ob' H'
def LeafI (W : Wd) (Wx : WX) (L : Lc) (B : List Nat) (σ : L2.St) (H : Hp) (R : It → Hp → Prop) : Res (List D) → Prop
  | .stuck => False
  | .ok xs => ∀ J H1 P, Same H H1 → P (Fr L B) (obs L) H1 → Walks W J xs P → R J H1
  | .err e => ∀ cls dd H', Same H H' → Exc W H' e cls dd → Wx cls dd σ H'
def tI (W : Wd) (Wx : WX) (B : List Nat) (ms : MA) : TI := fun σ H R => ∃ F ρ ω L, Rel W F ρ ω L σ H ∧ LeafI W Wx L B σ H R (ms ρ ω)
structure DI (X : Cx) (Wx : WX) (B : List Nat) (tg iter : Expr) (ms : MA) : Prop where
  pi : PI X tg iter (tI (wd X) Wx B ms)
theorem PI.weak {X : Cx} {tg iter : Expr} {t t' : TI} (h : PI X tg iter t) (w : ∀ σ H R, t' σ H R → t σ H R) : PI X tg iter t' := ⟨fun pins s σ H R I q => h.run pins s σ H R I (w σ H R q)⟩
theorem leafI_bind {W : Wd} {Wx : WX} {F : Fm} {ρ : Env'} {ω : Store} {L : Lc} {B : List Nat} {σ : L2.St} {H : Hp} {R' : It → Hp → Prop} {r : Res D} {k : D → Res (List D)} (R : Rel W F ρ ω L σ H) (h : LeafI W Wx L B σ H R' (r.bind k)) {P : VK}
    (hP : ∀ d v H', Same H H' → Rel W F ρ ω L σ H' → Rep W H' (Fr L B) (obs L) d v → LeafI W Wx L B σ H' R' (k d) → P v H') : Leaf W Wx L B σ H P r := by
  cases r with
  | stuck => exact h
  | err e => exact h
  | ok d =>
    intro v H' s q
    refine hP d v H' s (R.same s) q ?_
    replace h : LeafI W Wx L B σ H R' (k d) := h
    cases z : k d with
    | stuck => rw [z] at h; exact h
    | err e => rw [z] at h; exact fun c d H2 s2 x => h c d H2 (s.trans s2) x
    | ok xs => rw [z] at h; exact fun J H1 P s1 p w => h J H1 P (s.trans s1) p w
@[simp] def asLst : D → Res (List D)
  | .lst xs => .ok xs
  | _ => .stuck
@[simp] def asTup : D → Res (List D)
  | .tup xs => .ok xs
  | _ => .stuck
theorem walks_list {W : Wd} {K : PySem.W.Frag} {a : Addr} {xs : List D} : Walks W (Itl K a) xs (fun S ob H => Rep W H S ob (.lst xs) (.ref a)) where
  go := fun S ob i H ⟨a', vs, e, s, h, q⟩ hi => by
    cases e
    obtain ⟨v, e1, _⟩ := q.get (List.getElem?_eq_getElem hi)
    exact ⟨vs, v, .of h, e1⟩
  yld := fun S ob i H x H' ⟨a', vs, e, s, h, q⟩ ⟨e1, e2⟩ hi => by
    cases e
    subst e1
    obtain ⟨d, e3, r⟩ := q.get' (e2 vs (.of h))
    exact ⟨Same.refl _, d, e3, r⟩
  stop := fun S ob i H ⟨a', vs, e, s, h, q⟩ hi => by
    cases e
    exact ⟨vs, .of h, by rw [q.len]; exact hi⟩
  kp := fun S S' ob ob' H H' r k => Rep.mono k _ _ r
theorem walks_tup {W : Wd} {K : PySem.W.Frag} {a : Addr} {xs : List D} : Walks W (Itt K a) xs (fun S ob H => Rep W H S ob (.tup xs) (.ref a)) where
  go := fun S ob i H ⟨a', vs, e, h, q⟩ hi => by
    cases e
    obtain ⟨v, e1, _⟩ := q.get (List.getElem?_eq_getElem hi)
    exact ⟨vs, v, .of h, e1⟩
  yld := fun S ob i H x H' ⟨a', vs, e, h, q⟩ ⟨e1, e2⟩ hi => by
    cases e
    subst e1
    obtain ⟨d, e3, r⟩ := q.get' (e2 vs (.of h))
    exact ⟨Same.refl _, d, e3, r⟩
  stop := fun S ob i H ⟨a', vs, e, h, q⟩ hi => by
    cases e
    exact ⟨vs, .of h, by rw [q.len]; exact hi⟩
  kp := fun S S' ob ob' H H' r k => Rep.mono k _ _ r
section
variable {X : Cx} {Wx : WX} {pos p : Pos} {a b c e tg : Expr} {Ba Bb Bc B : List Nat} {ma mb mc m : M} {x f : Str} {i : Nat} {st : Stmt} {sts rest : List Stmt} {t u : T}
@[simp] def iLst (m : M) : MA := fun ρ ω => (m ρ ω).bind asLst
@[simp] def iTupl (m : M) : MA := fun ρ ω => (m ρ ω).bind asTup
theorem i_list (he : DP X Wx B e m) : DI X Wx B tg e (iLst m) :=
  ⟨PI.weak (pi_list he.pe) fun σ H R' ⟨F, ρ, ω, L, R, h⟩ => ⟨F, ρ, ω, L, R, leafI_bind R h fun d v H' s R1 q l => by
    cases d with
    | lst xs =>
      obtain ⟨a, vs, e1, s1, h1, q1⟩ := q
      exact ⟨a, e1, ⟨vs, .of h1⟩, l _ H' _ (Same.refl _) ⟨a, vs, rfl, s1, h1, q1⟩ walks_list⟩
    | _ => exact l.elim⟩⟩
theorem i_tup (he : DP X Wx B e m) : DI X Wx B tg e (iTupl m) :=
  ⟨PI.weak (pi_tup he.pe) fun σ H R' ⟨F, ρ, ω, L, R, h⟩ => ⟨F, ρ, ω, L, R, leafI_bind R h fun d v H' s R1 q l => by
    cases d with
    | tup xs =>
      obtain ⟨a, vs, e1, h1, q1⟩ := q
      exact ⟨a, e1, ⟨vs, .of h1⟩, l _ H' _ (Same.refl _) ⟨a, vs, rfl, h1, q1⟩ walks_tup⟩
    | _ => exact l.elim⟩⟩
/-- range(n), range(a, b) -/
def rangeD (lo : Int) (n : Nat) : List D := (List.range n).map fun (j : Nat) => .int (lo + j)
theorem walks_range {W : Wd} {lo : Int} {n : Nat} : Walks W (Itr lo n) (rangeD lo n) (fun _ _ _ => True) where
  go := fun S ob i H _ hi => by
    unfold rangeD at hi
    rw [List.length_map, List.length_range] at hi
    exact hi
  yld := fun S ob i H x H' _ ⟨e1, e2⟩ hi => by
    subst e1
    unfold rangeD at hi ⊢
    rw [List.length_map, List.length_range] at hi
    refine ⟨Same.refl _, .int (lo + i), ?_, e2⟩
    rw [List.getElem?_map, List.getElem?_range hi]; rfl
  stop := fun S ob i H _ hi => by
    unfold rangeD at hi
    rw [List.length_map, List.length_range] at hi
    exact hi
  kp := fun _ _ _ _ _ _ _ _ => trivial
noncomputable def asRng1 : D → Res (List D)
  | .int n => @ite _ (n < 4611686018427387904 ∧ -4611686018427387904 ≤ n) (Classical.propDecidable _) (.ok (rangeD 0 n.toNat)) .stuck
  | _ => .stuck
@[simp] noncomputable def iRng (m : M) : MA := fun ρ ω => (m ρ ω).bind asRng1
theorem LeafA.one {W : Wd} {L : Lc} {σ : L2.St} {H : Hp} {P : List V → Hp → Prop} {r : Res D} (h : Leaf W Wx L B σ H (fun v H' => P [v] H') r) : LeafA W Wx L B σ H P (r.bind fun x => .ok [x]) := by
  cases r with
  | stuck => exact h
  | err e => exact h
  | ok d =>
    intro vs H' s q
    obtain ⟨v, t, e1, q1, q2⟩ := q
    have e2 : t = [] := q2
    subst e2
    subst e1
    exact h v H' s q1
theorem i_range (hg : Gl X "range") (hm : X.mg "range" = none) (ha : DU X Wx B a m) (hs : starEach [a] X.env = [(false, eval a X.env)] := by rfl) : DI X Wx B tg (.Call (.Name "range" p) [a] [] pos) (iRng m) :=
  ⟨PI.weak (pi_range1 hg hm (pa_cons ha.pe pa_nil hs) hs) fun σ H R' ⟨F, ρ, ω, L, R, h⟩ => by
    refine ⟨F, ρ, ω, L, R, ?_⟩
    unfold iRng at h
    cases z : m ρ ω with
    | stuck => rw [z] at h; exact h
    | err e => rw [z] at h; exact h
    | ok d =>
      rw [z] at h
      intro v H' s q
      cases d with
      | int n =>
        replace h : LeafI (wd X) Wx L B σ H R' (@ite _ (n < 4611686018427387904 ∧ -4611686018427387904 ≤ n) (Classical.propDecidable _) (.ok (rangeD 0 n.toNat)) .stuck) := h
        split at h
        · rename_i hn
          exact ⟨n, by rw [show v = .int n from q], by omega, by omega, h _ H' (fun _ _ _ => True) s trivial walks_range⟩
        · exact h.elim
      | _ => exact h.elim⟩
noncomputable def asRng2 : D → D → Res (List D)
  | .int i, .int j => @ite _ ((i < 4611686018427387904 ∧ -4611686018427387904 ≤ i) ∧ (j < 4611686018427387904 ∧ -4611686018427387904 ≤ j)) (Classical.propDecidable _) (.ok (rangeD i (j - i).toNat)) .stuck
  | _, _ => .stuck
@[simp] noncomputable def iRng2' (ma mb : M) : MA := fun ρ ω => (ma ρ ω).bind fun x => (mb ρ ω).bind fun y => asRng2 x y
theorem i_range2 (hg : Gl X "range") (hm : X.mg "range" = none) (ha : DU X Wx Ba a ma) (hb : DU X Wx Bb b mb) (hs : starEach [a, b] X.env = [(false, eval a X.env), (false, eval b X.env)] := by rfl) (hs2 : starEach [b] X.env = [(false, eval b X.env)] := by rfl) :
    DI X Wx (Ba ++ Bb) tg (.Call (.Name "range" p) [a, b] [] pos) (iRng2' ma mb) :=
  ⟨PI.weak (pi_range2 hg hm (pa_cons ha.pe (pa_cons hb.pe pa_nil hs2) (by rw [hs, hs2])) hs hs2) fun σ H R' ⟨F, ρ, ω, L, R, h⟩ => by
    refine ⟨F, ρ, ω, L, R, ?_⟩
    unfold iRng2' at h
    cases z : ma ρ ω with
    | stuck => rw [z] at h; exact h
    | err e => rw [z] at h; exact h
    | ok d =>
      rw [z] at h
      intro v H' s q
      refine ⟨F, ρ, ω, L, R.same s, ?_⟩
      cases z2 : mb ρ ω with
      | stuck => rw [z2] at h; exact h
      | err e => rw [z2] at h; exact fun c d H2 s2 x => h c d H2 (s.trans s2) x
      | ok d2 =>
        rw [z2] at h
        intro w H2 s2 q2
        replace h : LeafI (wd X) Wx L (Ba ++ Bb) σ H R' (asRng2 d d2) := h
        unfold asRng2 at h
        split at h
        · split at h
          · rename_i hn
            exact ⟨_, _, by rw [show v = .int _ from q, show w = .int _ from q2], ⟨by omega, by omega, by omega, by omega⟩, h _ H2 (fun _ _ _ => True) (s.trans s2) trivial walks_range⟩
          · exact h.elim
        · exact h.elim⟩
/-- enumerate(list) -/
def enumD : Nat → List D → List D
  | _, [] => []
  | k, d :: r => .tup [.int (k : Nat), d] :: enumD (k + 1) r
theorem enumD_get : ∀ {xs : List D} {k i : Nat}, (enumD k xs)[i]? = (xs[i]?).map fun d => .tup [.int ((k + i : Nat) : Int), d]
  | [], k, i => by simp [enumD]
  | d :: r, k, 0 => by simp [enumD]
  | d :: r, k, i + 1 => by
    show (enumD (k + 1) r)[i]? = _
    rw [enumD_get (xs := r)]
    simp only [List.getElem?_cons_succ]
    congr 1
    funext d
    congr 4
    omega
theorem enumD_len : ∀ {xs : List D} {k : Nat}, (enumD k xs).length = xs.length
  | [], _ => rfl
  | d :: r, k => by show (enumD (k + 1) r).length + 1 = r.length + 1; rw [enumD_len]
theorem walks_enum {W : Wd} {K : PySem.W.Frag} {a : Addr} {xs : List D} : Walks W (Ite K a) (enumD 0 xs) (fun S ob H => Rep W H S ob (.lst xs) (.ref a)) where
  go := fun S ob i H ⟨a', vs, e, s, h, q⟩ hi => by
    cases e
    rw [enumD_len] at hi
    obtain ⟨v, e1, _⟩ := q.get (List.getElem?_eq_getElem hi)
    exact ⟨vs, v, .of h, e1⟩
  yld := fun S ob i H x H' ⟨a', vs, e, s, h, q⟩ ⟨T, x', e1, e2, e3, e4⟩ hi => by
    cases e
    subst e3
    have sm := same_upd (o := .tup [.int (i : Nat), x']) e2
    obtain ⟨d, e5, r⟩ := q.get' (e4 vs (.of h))
    refine ⟨sm, .tup [.int (i : Nat), d], ?_, T, [.int (i : Nat), x'], e1, upd_same, ⟨_, _, rfl, rfl, _, _, rfl, r.same sm, rfl⟩⟩
    rw [enumD_get, e5]; simp
  stop := fun S ob i H ⟨a', vs, e, s, h, q⟩ hi => by
    cases e
    rw [enumD_len] at hi
    exact ⟨vs, .of h, by rw [q.len]; exact hi⟩
  kp := fun S S' ob ob' H H' r k => Rep.mono k _ _ r
@[simp] def iEnumL (m : M) : MA := fun ρ ω => (m ρ ω).bind fun d => match d with
  | .lst xs => .ok (enumD 0 xs)
  | _ => .stuck
theorem i_enum {elts : List Expr} {kk : Nat} {tpos : Pos} (hg : Gl X "enumerate") (hm : X.mg "enumerate" = none) (ha : DP X Wx B a m) (hs : starEach [a] X.env = [(false, eval a X.env)] := by rfl) : DI X Wx B (.Tuple elts kk tpos) (.Call (.Name "enumerate" p) [a] [] pos) (iEnumL m) :=
  ⟨PI.weak (pi_enum hg hm (pa_cons ha.pe pa_nil hs) hs) fun σ H R' ⟨F, ρ, ω, L, R, h⟩ => ⟨F, ρ, ω, L, R, leafI_bind R h fun d v H' s R1 q l => by
    cases d with
    | lst xs =>
      obtain ⟨a, vs, e1, s1, h1, q1⟩ := q
      exact ⟨a, vs, by rw [e1], .of h1, l _ H' _ (Same.refl _) ⟨a, vs, rfl, s1, h1, q1⟩ walks_enum⟩
    | _ => exact l.elim⟩⟩
/-- a text, sign by sign -/
def signsD (x : Str) : List D := x.cps.toList.map fun c => .str ⟨#[c]⟩
theorem walks_str {W : Wd} {x : Str} : Walks W (Its x) (signsD x) (fun _ _ _ => True) where
  go := fun S ob i H _ hi => by
    unfold signsD at hi
    rw [List.length_map, Array.length_toList] at hi
    exact hi
  yld := fun S ob i H y H' _ ⟨e1, c, e2, e3⟩ hi => by
    subst e1
    refine ⟨Same.refl _, .str ⟨#[c]⟩, ?_, e3⟩
    unfold signsD
    rw [List.getElem?_map, Array.getElem?_toList, e2]; rfl
  stop := fun S ob i H _ hi => by
    unfold signsD at hi
    rw [List.length_map, Array.length_toList] at hi
    exact hi
  kp := fun _ _ _ _ _ _ _ _ => trivial
@[simp] def asStrs : D → Res (List D)
  | .str s => .ok (signsD s)
  | _ => .stuck
@[simp] def iStrs (m : M) : MA := fun ρ ω => (m ρ ω).bind asStrs
theorem i_str (he : DP X Wx B e m) : DI X Wx B tg e (iStrs m) :=
  ⟨PI.weak (pi_str he.pe) fun σ H R' ⟨F, ρ, ω, L, R, h⟩ => ⟨F, ρ, ω, L, R, leafI_bind R h fun d v H' s R1 q l => by
    cases d with
    | str z => exact ⟨z, q, l _ H' (fun _ _ _ => True) (Same.refl _) trivial walks_str⟩
    | _ => exact l.elim⟩⟩
end
end DL
namespace DL
open PySem PySem.Spec PyProof.Rows L2

/-! ### targets -/
def tG (W : Wd) (mt : D → Env' → Option Env') : TG := fun v σ H Q => ∃ F ρ ω L d, Rel W F ρ ω L σ H ∧ Rep W H (Fr L []) (obs L) d v ∧ (match mt d ρ with
  | some ρ' => ∀ σ' L', Rel W F ρ' ω L' σ' H → Q σ' H
  | none => False)
structure DG (X : Cx) (tg : Expr) (mt : D → Env' → Option Env') : Prop where
  pg : PG X tg (tG (wd X) mt)
theorem PG.weak {X : Cx} {tg : Expr} {t t' : TG} (h : PG X tg t) (w : ∀ v σ H Q, t' v σ H Q → t v σ H Q) : PG X tg t' := ⟨fun pins s σ H v u Q I r q => h.run pins s σ H v u Q I r (w v σ H Q q)⟩
@[simp] def gN (i : Nat) : D → Env' → Option Env' := fun d ρ => if i < ρ.length then some (ρ.set i (.val d)) else none
@[simp] def gNs : List Nat → List D → Env' → Option Env'
  | [], [], ρ => some ρ
  | i :: is, d :: ds, ρ => if i < ρ.length then gNs is ds (ρ.set i (.val d)) else none
  | _, _, _ => none
@[simp] def gT (is : List Nat) : D → Env' → Option Env'
  | .tup ds, ρ => gNs is ds ρ
  | _, _ => none
section
variable {X : Cx} {pos : Pos} {x : Str} {i : Nat}
theorem g_name (hN : X.N.Nodup) (hi : X.N[i]? = some x) (hx : Loc X.env.scope x) (hf : X.fn x = true ∨ X.env.scope.names.lookup x = some .local := by first | exact .inl rfl | exact .inr rfl | assumption) : DG X (.Name x pos) (gN i) :=
  ⟨PG.weak (pg_name hN hi hx hf) fun v σ H Q ⟨F, ρ, ω, L, d, R, q, h⟩ => by
    unfold gN at h
    split at h
    · rename_i ρ' e
      split at e
      · rename_i hl
        cases e
        exact h _ _ (R.putVal hl q)
      · cases e
    · exact h.elim⟩
/-- several names -/
structure DGs (X : Cx) (es : List Expr) (is : List Nat) : Prop where
  pgs : ∃ t, PGs X es t ∧ ∀ (F : Fm) (ρ : Env') (ω : Store) (L : Lc) (ds : List D) (vs : List V) (σ : L2.St) (H : Hp) (Q : L2.St → Hp → Prop), Rel (wd X) F ρ ω L σ H → Reps (wd X) H (Fr L []) (obs L) ds vs →
    (match gNs is ds ρ with
      | some ρ' => ∀ σ' L', Rel (wd X) F ρ' ω L' σ' H → Q σ' H
      | none => False) → t vs σ H Q
theorem gs_nil : DGs X [] [] := ⟨gNil, pgs_nil, fun F ρ ω L ds vs σ H Q R q h => by
  cases ds with
  | nil => exact ⟨q, h σ L R⟩
  | cons d ds => exact h.elim⟩
theorem gs_cons {es : List Expr} {is : List Nat} (hN : X.N.Nodup) (hi : X.N[i]? = some x) (hx : Loc X.env.scope x) (hr : DGs X es is)
    (hs : (assignEach (.Name x pos :: es) X.env).map (·.2) = assign (.Name x pos) X.env :: (assignEach es X.env).map (·.2) := by rfl) (hf : X.fn x = true ∨ X.env.scope.names.lookup x = some .local := by first | exact .inl rfl | exact .inr rfl | assumption) : DGs X (.Name x pos :: es) (i :: is) := by
  obtain ⟨t, ht, k⟩ := hr.pgs
  refine ⟨gCons (gName i) t, pgs_cons (pg_name hN hi hx hf) ht hs, fun F ρ ω L ds vs σ H Q R q h => ?_⟩
  cases ds with
  | nil => exact h.elim
  | cons d ds =>
    obtain ⟨v, r, e, q1, q2⟩ := q
    refine ⟨v, r, e, ?_⟩
    have h : (match (if i < ρ.length then gNs is ds (ρ.set i (.val d)) else none) with
      | some ρ' => ∀ σ' L', Rel (wd X) F ρ' ω L' σ' H → Q σ' H
      | none => False) := h
    by_cases hl : i < ρ.length
    · rw [if_pos hl] at h
      exact k F _ ω _ ds r _ H Q (R.putVal hl q1) (Reps.mono (kp_none (Same.refl H)) ds r q2) h
    · rw [if_neg hl] at h
      exact h.elim
theorem g_tup {es : List Expr} {is : List Nat} {k : Nat} (hc : X.calm = true) (h : DGs X es is) (hn : (assignEach es X.env).length = is.length := by rfl) (hst : (assignEach es X.env).findIdx? (·.1) = none := by rfl) : DG X (.Tuple es k pos) (gT is) := by
  obtain ⟨t, ht, kk⟩ := h.pgs
  refine ⟨PG.weak (pg_tup hc ht hn hst) fun v σ H Q ⟨F, ρ, ω, L, d, R, q, h⟩ => ?_⟩
  unfold gT at h
  cases d with
  | tup ds =>
    obtain ⟨a, vs, e, h1, q1⟩ := q
    have hlen : ∀ (is : List Nat) (ds : List D) (ρ ρ' : Env'), gNs is ds ρ = some ρ' → ds.length = is.length := by
      intro is
      induction is with
      | nil => intro ds ρ ρ' e; cases ds with
        | nil => rfl
        | cons _ _ => cases e
      | cons i is ih => intro ds ρ ρ' e; cases ds with
        | nil => cases e
        | cons d ds =>
          have e : (if i < ρ.length then gNs is ds (ρ.set i (.val d)) else none) = some ρ' := e
          split at e
          · rw [List.length_cons, List.length_cons, ih ds _ _ e]
          · cases e
    refine ⟨a, vs, e, .of h1, ?_, kk F ρ ω L ds vs σ H Q R q1 h⟩
    have h' : (match gNs is ds ρ with
      | some ρ' => ∀ σ' L', Rel (wd X) F ρ' ω L' σ' H → Q σ' H
      | none => False) := h
    cases z : gNs is ds ρ with
    | none => rw [z] at h'; exact h'.elim
    | some ρ' => rw [q1.len, hlen _ _ _ _ z]
  | _ => exact h.elim
end

/-! ### for -/
@[simp] def mFor (mt : D → Env' → Option Env') (body : T) : List D → T
  | [] => fun _ ρ ω => .nx ρ ω
  | x :: r => fun n0 ρ ω => match mt x ρ with
    | none => .stuck
    | some ρ1 => match body n0 ρ1 ω with
      | .nx ρ' ω' => mFor mt body r n0 ρ' ω'
      | .ct ρ' ω' => mFor mt body r n0 ρ' ω'
      | .bk ρ' ω' => .nx ρ' ω'
      | q => q
@[simp] def sFor (B : List Nat) (ms : MA) (mt : D → Env' → Option Env') (body : T) : T := fun n0 ρ ω => match ms ρ ω with
  | .stuck => .stuck
  | .err e => .er e ω
  | .ok xs => mFor mt body xs n0 (demote B ρ) ω
section
variable {X : Cx} {Wx : WX} {pos p : Pos} {a b c e tg iter : Expr} {Ba Bb Bc B : List Nat} {ma mb mc m : M} {x f : Str} {i : Nat} {st : Stmt} {sts rest : List Stmt} {t u : T} {ms : MA} {mt : D → Env' → Option Env'}
theorem s_for (hp : PassesOwn (model X.prog X.w) X.A X.env X.xe) (hc : X.calm = true) (hi : DI X Wx B tg iter ms) (hg : DG X tg mt) (hb : DSs X Wx sts t) (hs : ∀ x, foldedSetIterable iter X.env x = pure x := by intro _; rfl) : DS X Wx (.For tg iter sts [] pos) (sFor B ms mt t) :=
  ⟨PS.weak (ps_for hp hc hi.pi hg.pg hb.pss hs) fun G σ H ⟨F, ρ, ω, L, R, h⟩ => by
    refine ⟨F, ρ, ω, L, R, ?_⟩
    unfold sFor at h
    cases z : ms ρ ω with
    | stuck => rw [z] at h; exact h
    | err e => rw [z] at h; exact fun c d H' s x => h c d ρ σ H' L (R.same s) x
    | ok xs =>
      rw [z] at h
      intro J H1 P s1 p0 w
      have R1 := (R.same s1).demote B
      have p1 : P (Fr (lcD B L) []) (obs (lcD B L)) H1 := w.kp _ _ _ _ _ _ p0 (kp_dem (W := wd X))
      refine ⟨fun i k σ H => k = xs.length - i ∧ i ≤ xs.length ∧ ∃ ρ ω L, Rel (wd X) F ρ ω L σ H ∧ P (Fr L []) (obs L) H ∧ LeafS (wd X) Wx F G (mFor mt t (xs.drop i) F.n0 ρ ω), ⟨xs.length, by simp, Nat.zero_le _, _, _, _, R1, p1, h⟩, ?_⟩
      rintro i k σ H2 ⟨rfl, hi, ρ, ω, L, R, p, h⟩
      by_cases hlt : i < xs.length
      · refine .inr ⟨w.go _ _ i H2 p hlt, fun σ' H' => ∃ ρ' ω' L', Rel (wd X) F ρ' ω' L' σ' H' ∧ P (Fr L' []) (obs L') H' ∧ LeafS (wd X) Wx F G (mFor mt t (xs.drop (i + 1)) F.n0 ρ' ω'),
          fun σ' H' q => ⟨xs.length - (i + 1), by omega, rfl, hlt, q⟩, fun v H' y => ?_⟩
        obtain ⟨sm, d, ed, rd⟩ := w.yld _ _ i H2 v H' p y hlt
        have ex : xs.drop i = d :: xs.drop (i + 1) := by
          rw [List.drop_eq_getElem_cons hlt]
          congr 1
          rw [List.getElem?_eq_getElem hlt] at ed
          exact Option.some.inj ed
        rw [ex] at h
        have R' := R.same sm
        have p' := w.kp _ _ _ _ _ _ p (Kp.same (S := Fr L []) (ob := obs L) sm)
        refine ⟨F.at L H', ρ, ω, L, d, R'.sub, rd, ?_⟩
        have h : LeafS (wd X) Wx F G (match mt d ρ with
          | none => .stuck
          | some ρ1 => match t F.n0 ρ1 ω with
            | .nx ρ' ω' => mFor mt t (xs.drop (i + 1)) F.n0 ρ' ω'
            | .ct ρ' ω' => mFor mt t (xs.drop (i + 1)) F.n0 ρ' ω'
            | .bk ρ' ω' => .nx ρ' ω'
            | q => q) := h
        cases zt : mt d ρ with
        | none => rw [zt] at h; exact h.elim
        | some ρ1 =>
          rw [zt] at h
          replace h : LeafS (wd X) Wx F G (match t F.n0 ρ1 ω with
            | .nx ρ' ω' => mFor mt t (xs.drop (i + 1)) F.n0 ρ' ω'
            | .ct ρ' ω' => mFor mt t (xs.drop (i + 1)) F.n0 ρ' ω'
            | .bk ρ' ω' => .nx ρ' ω'
            | q => q) := h
          intro σ2 L2 R2
          refine ⟨F.at L H', ρ1, ω, L2, R2, ?_⟩
          show LeafS (wd X) Wx (F.at L H') _ (t F.n0 ρ1 ω)
          cases zb : t F.n0 ρ1 ω with
          | stuck => rw [zb] at h; exact h
          | nx ρ' ω' =>
            rw [zb] at h
            exact fun σ3 H3 L3 R3 => ⟨ρ', ω', L3, R'.up R3, w.kp _ _ _ _ _ _ p' (R3.aft.kp R'.alive), h⟩
          | ct ρ' ω' =>
            rw [zb] at h
            exact fun σ3 H3 L3 R3 => ⟨ρ', ω', L3, R'.up R3, w.kp _ _ _ _ _ _ p' (R3.aft.kp R'.alive), h⟩
          | bk ρ' ω' =>
            rw [zb] at h
            exact fun σ3 H3 L3 R3 => h σ3 H3 L3 (R'.up R3)
          | rt d ω' =>
            rw [zb] at h
            exact fun v ρ3 σ3 H3 L3 R3 q => h v ρ3 σ3 H3 L3 (R'.up R3) q
          | er e ω' =>
            rw [zb] at h
            exact fun c d ρ3 σ3 H3 L3 R3 q => h c d ρ3 σ3 H3 L3 (R'.up R3) q
      · have e : i = xs.length := by omega
        subst e
        refine .inl ⟨w.stop _ _ _ H2 p (Nat.le_refl _), ?_⟩
        rw [List.drop_length] at h
        exact h σ H2 L R⟩
/-- a, b = e -/
@[simp] def sUnp (B : List Nat) (m : M) (mt : D → Env' → Option Env') : T := fun _ ρ ω => ofE (m ρ ω) ω fun d => match mt d (dem B d ρ) with
  | some ρ' => .nx ρ' ω
  | none => .stuck
theorem Rel.loosen {W : Wd} {F : Fm} {ρ : Env'} {ω : Store} {L : Lc} {σ : L2.St} {H : Hp} (R : Rel W F ρ ω L σ H) {B : List Nat} {d : D} {v : V} (r : Rep W H (Fr L B) (obs L) d v) : ∃ L', Rel W F (dem B d ρ) ω L' σ H ∧ Rep W H (Fr L' []) (obs L') d v := by
  unfold dem
  split
  · rename_i f
    exact ⟨L, R, D.free_rep d v f r⟩
  · exact ⟨_, R.demote B, Rep.mono (kp_dem (W := W)) d v r⟩
theorem s_unp (he : DP X Wx B e m) (hg : DG X tg mt) (hs : swapsWithSole [tg] e pos.line X.env = pure false := by rfl) (hw : swappedStores [tg] e X.env = pure none := by rfl) (h1 : (assignEach [tg] X.env).map (·.2) = [assign tg X.env] := by rfl) :
    DS X Wx (.Assign [tg] e pos) (sUnp B m mt) :=
  ⟨PS.weak (ps_asg he.pe hg.pg hs hw h1) fun G σ H ⟨F, ρ, ω, L, R, h⟩ => ⟨F, ρ, ω, L, R, leafS_bind (k := fun d => match mt d (dem B d ρ) with
      | some ρ' => .nx ρ' ω
      | none => .stuck) R h fun d v H' _ s R' q l => by
    obtain ⟨L1, R1, q1⟩ := R'.loosen q
    refine ⟨F, _, ω, L1, d, R1, q1, ?_⟩
    cases z : mt d (dem B d ρ) with
    | none => rw [z] at l; exact l.elim
    | some ρ' => rw [z] at l; exact fun σ' L' R2 => l σ' H' L' R2⟩⟩
end
end DL
namespace DL
open PySem PySem.Spec PyProof.Rows L2

/-! ### comprehensions -/
abbrev W0 : WX := fun _ _ _ _ => False
def compL (i : Nat) (tt : Env' → Store → Res Bool) (me : M) (ω : Store) (ρ : Env') : List D → Res (List D)
  | [] => .ok []
  | x :: r => match tt (ρ.set i (.val x)) ω with
    | .ok true => (match me (ρ.set i (.val x)) ω with
      | .ok y => (compL i tt me ω ρ r).bind fun ys => .ok (y :: ys)
      | _ => .stuck)
    | .ok false => compL i tt me ω ρ r
    | _ => .stuck
@[simp] def mComp (i : Nat) (Bi : List Nat) (ms : MA) (tt : Env' → Store → Res Bool) (me : M) : M := fun ρ ω => if i < ρ.length then (ms ρ ω).bind fun xs => if xs.length ≤ 1000 then (compL i tt me ω (demote Bi ρ) xs).bind fun ys => .ok (.lst ys) else .stuck else .stuck
@[simp] def bTrue : Env' → Store → Res Bool := fun _ _ => .ok true
/-- a hole: the new list, known to nobody -/
def lcH (L : Lc) (z : Addr) : Lc := fun p => if p = .fg z then some z else L p
theorem lcH_ne {L : Lc} {z : Addr} {p : Pl} (h : p ≠ .fg z) : lcH L z p = L p := if_neg h
theorem lcH_eq {L : Lc} {z : Addr} : lcH L z (.fg z) = some z := if_pos rfl
section
variable {W : Wd} {F : Fm} {ρ ρ' : Env'} {ω ω' : Store} {L L' : Lc} {σ σ' : L2.St} {H H' : Hp} {B : List Nat} {z : Addr}
theorem frH (f : Fr (lcH L z) B = Fr (lcH L z) B) {b : Addr} (h : Fr L B b) (n : b ≠ z) : Fr (lcH L z) B b := fun p e => by
  by_cases hp : p = .fg z
  · subst hp
    rw [lcH_eq] at e
    cases e
    exact absurd rfl n
  · rw [lcH_ne hp] at e
    exact h p e
theorem frH_ne {b : Addr} (h : Fr (lcH L z) B b) : b ≠ z := fun e => by
  subst e
  obtain ⟨i, _, q⟩ := h (.fg b) lcH_eq
  cases q
theorem frH_fr (hfg : ∀ a b, L (.fg a) = some b → b = a) {b : Addr} (h : Fr (lcH L z) B b) : Fr L B b := fun p e => by
  by_cases hp : p = .fg z
  · subst hp
    have := hfg z b e
    subst this
    exact absurd rfl (frH_ne h)
  · exact h p (by rw [lcH_ne hp]; exact e)
theorem kpH (hz : H z = none) (s : Same H H') : Kp H H' (Fr L B) (Fr (lcH L z) B) (obs L) (obs (lcH L z)) where
  s := fun a u f h => frH rfl f (ne_of_none h hz)
  k := fun a u _ h => s a u h
  t := fun a xs h => s a _ h
  o := fun n a h => by show lcH L z (.ob n) = _; rw [lcH_ne (fun e => by cases e)]; exact h
/-- the new list is laid: it is a hole -/
theorem Rel.hole (R : Rel W F ρ ω L σ H) (hz : H z = none) (xs : List V) : Rel W ⟨F.n0, lcH L z, upd H z (.lst xs)⟩ ρ ω (lcH L z) σ (upd H z (.lst xs)) := by
  have s : Same H (upd H z (.lst xs)) := same_upd hz
  have al : ∀ {p : Pl} {a : Addr}, p ≠ .fg z → lcH L z p = some a → a ≠ z := fun {p a} np e q => by
    rw [lcH_ne np] at e
    obtain ⟨u, h, _⟩ := R.alive p a e
    rw [q, hz] at h; cases h
  refine ⟨fun p q a e1 e2 => ?_, fun p a e => ?_, Aft.refl, fun a b e => ?_, R.len, fun i x e => SltR.move (kpH hz s) s (lcH_ne (fun e => by cases e)) (R.sl i x e), fun n o e => ObR.move (kpH hz s) s (fun f => lcH_ne (fun e => by cases e)) (R.st n o e), fun n h => ⟨by rw [lcH_ne (fun z => by cases z)]; exact (R.dom n h).1, fun f => by rw [lcH_ne (fun z => by cases z)]; exact (R.dom n h).2 f⟩⟩
  · by_cases h1 : p = .fg z
    · by_cases h2 : q = .fg z
      · rw [h1, h2]
      · subst h1
        rw [lcH_eq] at e1
        cases e1
        exact absurd rfl (al h2 e2)
    · by_cases h2 : q = .fg z
      · subst h2
        rw [lcH_eq] at e2
        cases e2
        exact absurd rfl (al h1 e1)
      · rw [lcH_ne h1] at e1
        rw [lcH_ne h2] at e2
        exact R.inj p q a e1 e2
  · by_cases h1 : p = .fg z
    · subst h1
      rw [lcH_eq] at e
      cases e
      exact ⟨_, upd_same, rfl⟩
    · rw [lcH_ne h1] at e
      obtain ⟨u, h, c⟩ := R.alive p a e
      exact ⟨u, s a u h, c⟩
  · by_cases h1 : Pl.fg a = .fg z
    · cases h1
      rw [lcH_eq] at e
      exact (Option.some.inj e).symm
    · rw [lcH_ne h1] at e
      exact R.fgs a b e
/-- the hole's list is changed -/
theorem kp_chg {xs ys : List V} (hL : L (.fg z) = some z) (hz : H z = some (.lst xs)) : Kp H (upd H z (.lst ys)) (Fr L B) (Fr L B) (obs L) (obs L) where
  s := fun _ _ f _ => f
  k := fun a u f h => by
    have n : a ≠ z := fun e => by
      subst e
      obtain ⟨i, _, q⟩ := f _ hL
      cases q
    rw [upd_ne n]; exact h
  t := fun a vs h => by
    rw [upd_ne (fun e => by rw [e, hz] at h; cases h)]; exact h
  o := fun _ _ h => h
theorem SltR.chg {p : Pl} {ex : Bool} (k : Kp H H' (Fr L []) (Fr L []) (obs L) (obs L)) (ne : ∀ a, L p = some a → H' a = H a) : ∀ {x : Sl} {v : Option V}, SltR W H L p ex x v → SltR W H' L p ex x v
  | .no, _, _ => trivial
  | .val d, v, ⟨x, e, h⟩ => ⟨x, e, Rep.mono k d x h⟩
  | .own d, v, ⟨a, e, l, h⟩ => ⟨a, e, l, RepO.mono k (fun u h => ⟨fun q => by rw [ne a l]; exact h.1 q, by
      rcases h.2 with h | ⟨o, h⟩
      · exact .inl (by rw [ne a l]; exact h)
      · exact .inr ⟨o, by rw [ne a l]; exact h⟩⟩) (fun _ h => by rw [ne a l]; exact h) h⟩
theorem FsR.chg {n : Nat} {ex : Bool} (k : Kp H H' (Fr L []) (Fr L []) (obs L) (obs L)) (ne : ∀ f a, L (.fd n f) = some a → H' a = H a) : ∀ {fs : List (Str × Sl)} {vs : List (Str × V)}, FsR W H L n ex fs vs → FsR W H' L n ex fs vs
  | [], _, h => h
  | (f, x) :: r, _, ⟨v, t, e, h, q⟩ => ⟨v, t, e, SltR.chg k (ne f) h, FsR.chg k ne q⟩
theorem Rel.chg (R : Rel W F ρ ω L σ H) {xs ys : List V} (hL : L (.fg z) = some z) (hz : H z = some (.lst xs)) : Rel W ⟨F.n0, L, upd H z (.lst ys)⟩ ρ ω L σ (upd H z (.lst ys)) := by
  have k : Kp H (upd H z (.lst ys)) (Fr L []) (Fr L []) (obs L) (obs L) := kp_chg hL hz
  have ne : ∀ p, p ≠ .fg z → ∀ a, L p = some a → upd H z (.lst ys) a = H a := fun p np a e => upd_ne (fun q => np (R.inj p (.fg z) z (by rw [← q]; exact e) hL))
  refine ⟨R.inj, fun p a e => ?_, Aft.refl, R.fgs, R.len, fun i x e => SltR.chg k (ne _ (fun e => by cases e)) (R.sl i x e), fun n o e => ?_, R.dom⟩
  · by_cases h1 : p = .fg z
    · subst h1
      rw [hL] at e
      cases e
      exact ⟨_, upd_same, rfl⟩
    · rw [ne p h1 a e]
      exact R.alive p a e
  · obtain ⟨p, C, dx, fs, e1, e2, e3, q⟩ := (R.st n o e).at_
    exact ⟨p, C, dx, fs, e1, e2, by rw [ne _ (fun e => by cases e) p e1]; exact e3, FsR.chg k (fun f => ne _ (fun e => by cases e)) q⟩
theorem Rel.wipe (R : Rel W F ρ ω L σ H) (i : Nat) : Rel W F (ρ.set i .no) ω L (L2.wipe σ [i]) H := by
  refine ⟨R.inj, R.alive, R.aft, R.fgs, ?_, fun j s e => ?_, R.st, R.dom⟩
  · rw [wipe_length, List.length_set]; exact R.len
  · by_cases h : j = i
    · subst h
      have hl : j < ρ.length := by
        have := (List.getElem?_eq_some_iff.mp e).1
        rwa [List.length_set] at this
      rw [List.getElem?_set_self hl] at e
      cases e
      trivial
    · rw [List.getElem?_set_ne (Ne.symm h)] at e
      have : (L2.wipe σ [i])[j]? = σ[j]? := List.getElem?_set_ne (Ne.symm h)
      rw [this]
      exact R.sl j s e
end
theorem Same.upd_left {H H' : Hp} {z : Addr} {o : HO} (s : Same H H') (n : H z = none) : Same H (upd H' z o) := fun b u h => by
  rw [upd_ne (ne_of_none h n)]; exact s b u h
theorem set_set_eq {α : Type} (l : List α) (i : Nat) (a b : α) : (l.set i a).set i b = l.set i b := List.set_set ..
/-- the loop of a comprehension, read -/
theorem lc_read {W : Wd} {Wx : WX} {Bi Be : List Nat} {ms : MA} {i : Nat} {tt : Env' → Store → Res Bool} {me : M} {F : Fm} {ρ : Env'} {ω : Store} {L : Lc} {σ : L2.St} {H : Hp} {Q : VK} (R : Rel W F ρ ω L σ H)
    (h : LeafF W Wx L (i :: (Bi ++ Be)) σ H Q (mComp i Bi ms tt me ρ ω)) : tLc (tI W Wx Bi ms) (gName i) (tT W W0 tt) (tP W W0 Be me) [i] σ H Q := by
  unfold mComp at h
  split at h
  · rename_i hl
    refine ⟨F, ρ, ω, L, R, ?_⟩
    cases zs : ms ρ ω with
    | stuck => rw [zs] at h; exact h
    | err e => rw [zs] at h; exact h
    | ok xs =>
      rw [zs] at h
      intro J H1 P s1 p0 w z hz
      have hz0 : H z = none := by
        cases e : H z with
        | none => rfl
        | some u => rw [s1 z u e] at hz; cases hz
      replace h : LeafF W Wx L (i :: (Bi ++ Be)) σ H Q (if xs.length ≤ 1000 then (compL i tt me ω (demote Bi ρ) xs).bind fun ys => .ok (.lst ys) else .stuck) := h
      split at h
      · rename_i hlen
        have hl' : i < (demote Bi ρ).length := by rw [demote_len]; exact hl
        have R1 := (((R.same s1).demote Bi).wipe i).hole hz []
        have LD : lcH (lcD Bi L) z (.fg z) = some z := lcH_eq
        have p1 := w.kp _ _ _ _ _ _ (w.kp _ _ _ _ _ _ p0 (kp_dem (W := W))) (kpH hz (same_upd (o := .lst []) hz))
        -- the invariant
        refine ⟨fun k m H2 => m = xs.length - k ∧ k ≤ xs.length ∧ ∃ (F2 : Fm) (ys : List D) (acc : List V), Rel W F2 ((demote Bi ρ).set i .no) ω (lcH (lcD Bi L) z) (L2.wipe σ [i]) H2 ∧ P (Fr (lcH (lcD Bi L) z) []) (obs (lcH (lcD Bi L) z)) H2 ∧ H2 z = some (.lst acc) ∧ acc.length ≤ k ∧ Same H H2 ∧
          Reps W H2 (Fn L (i :: (Bi ++ Be)) z) (obs L) ys acc ∧ LeafF W Wx L (i :: (Bi ++ Be)) σ H Q ((compL i tt me ω (demote Bi ρ) (xs.drop k)).bind fun r => .ok (.lst (ys ++ r))), ⟨xs.length, by simp, Nat.zero_le _, _, [], [], R1, p1, upd_same, Nat.le_refl _, s1.trans (same_upd hz), rfl, h⟩, ?_⟩
        rintro k m H2 ⟨rfl, hk, F2, ys, acc, R2, p2, hacc, hal, s2, racc, l2⟩
        by_cases hlt : k < xs.length
        · refine .inr ⟨w.go _ _ k H2 p2 hlt, fun H3 => ∃ (F3 : Fm) (ys : List D) (acc : List V), Rel W F3 ((demote Bi ρ).set i .no) ω (lcH (lcD Bi L) z) (L2.wipe σ [i]) H3 ∧ P (Fr (lcH (lcD Bi L) z) []) (obs (lcH (lcD Bi L) z)) H3 ∧ H3 z = some (.lst acc) ∧ acc.length ≤ k + 1 ∧ Same H H3 ∧
            Reps W H3 (Fn L (i :: (Bi ++ Be)) z) (obs L) ys acc ∧ LeafF W Wx L (i :: (Bi ++ Be)) σ H Q ((compL i tt me ω (demote Bi ρ) (xs.drop (k + 1))).bind fun r => .ok (.lst (ys ++ r))), fun H3 q => ⟨xs.length - (k + 1), by omega, rfl, hlt, q⟩, fun v H3 y => ?_⟩
          obtain ⟨sm, d, ed, rd⟩ := w.yld _ _ k H2 v H3 p2 y hlt
          have ex : xs.drop k = d :: xs.drop (k + 1) := by
            rw [List.drop_eq_getElem_cons hlt]
            congr 1
            rw [List.getElem?_eq_getElem hlt] at ed
            exact Option.some.inj ed
          rw [ex] at l2
          have R3 := R2.same sm
          have p3 := w.kp _ _ _ _ _ _ p2 (Kp.same (S := Fr (lcH (lcD Bi L) z) []) (ob := obs (lcH (lcD Bi L) z)) sm)
          have s3 := s2.trans sm
          have racc3 := racc.same sm
          have hacc3 := sm _ _ hacc
          have hlen2 : i < ((demote Bi ρ).set i Sl.no).length := by rw [List.length_set]; exact hl'
          have ew : L2.wipe ((L2.wipe σ [i]).set i (some v)) [i] = L2.wipe σ [i] := by
            show ((σ.set i none).set i (some v)).set i none = σ.set i none
            rw [set_set_eq, set_set_eq]
          refine ⟨ew, ?_⟩
          have e2 : ((demote Bi ρ).set i Sl.no).set i (.val d) = (demote Bi ρ).set i (.val d) := set_set_eq ..
          have R4 := R3.putVal hlen2 rd
          rw [e2] at R4
          have kL : ∀ (H5 : Hp), Kp H5 H5 (Fr (lcS (lcH (lcD Bi L) z) i none) Be) (Fn L (i :: (Bi ++ Be)) z) (obs (lcS (lcH (lcD Bi L) z) i none)) (obs L) := fun H5 => by
            refine ⟨fun a u f _ => ?_, fun _ _ _ h => h, fun _ _ h => h, fun n a h => ?_⟩
            · have nz : a ≠ z := fun e => by
                subst e
                obtain ⟨j, _, q⟩ := f (.fg a) (by rw [lcS_ne (fun e => by cases e)]; exact lcH_eq)
                cases q
              refine ⟨fun p e => ?_, nz⟩
              by_cases hp : p = .sl i
              · exact ⟨i, List.mem_cons_self, hp⟩
              · by_cases hq : ∃ j, p = .sl j ∧ j ∈ Bi
                · obtain ⟨j, hj, mj⟩ := hq
                  exact ⟨j, List.mem_cons_of_mem _ (List.mem_append_left _ mj), hj⟩
                · have hg : p ≠ .fg z := fun q => by
                    subst q
                    exact nz (R.fgs z a e)
                  obtain ⟨j, mj, hj⟩ := f p (by
                    rw [lcS_ne hp, lcH_ne hg]
                    cases p with
                    | sl j =>
                      show (if j ∈ Bi then none else L (.sl j)) = _
                      rw [if_neg (fun m => hq ⟨j, rfl, m⟩)]
                      exact e
                    | fd n f => exact e
                    | ob n => exact e
                    | fg b => exact e)
                  exact ⟨j, List.mem_cons_of_mem _ (List.mem_append_right _ mj), hj⟩
            · have h : lcS (lcH (lcD Bi L) z) i none (.ob n) = some a := h
              rw [lcS_ne (fun e => by cases e), lcH_ne (fun e => by cases e)] at h
              exact h
          refine ⟨F2, _, ω, _, R4, ?_⟩
          replace l2 : LeafF W Wx L (i :: (Bi ++ Be)) σ H Q ((match tt ((demote Bi ρ).set i (.val d)) ω with
            | .ok true => (match me ((demote Bi ρ).set i (.val d)) ω with
              | .ok y => (compL i tt me ω (demote Bi ρ) (xs.drop (k + 1))).bind fun ys => .ok (y :: ys)
              | _ => .stuck)
            | .ok false => compL i tt me ω (demote Bi ρ) (xs.drop (k + 1))
            | _ => .stuck).bind fun r => .ok (.lst (ys ++ r))) := l2
          cases zt : tt ((demote Bi ρ).set i (.val d)) ω with
          | stuck => rw [zt] at l2; exact l2.elim
          | err e => rw [zt] at l2; exact l2.elim
          | ok b =>
            rw [zt] at l2
            intro H4 s4
            cases b with
            | false =>
              rw [if_neg Bool.false_ne_true]
              exact ⟨F2, ys, acc, R3.same s4, w.kp _ _ _ _ _ _ p3 (Kp.same s4), s4 _ _ hacc3, Nat.le_succ_of_le hal, s3.trans s4, racc3.same s4, l2⟩
            | true =>
              rw [if_pos rfl]
              refine ⟨F2, _, ω, _, R4.same s4, ?_⟩
              replace l2 : LeafF W Wx L (i :: (Bi ++ Be)) σ H Q ((match me ((demote Bi ρ).set i (.val d)) ω with
              | .ok y => (compL i tt me ω (demote Bi ρ) (xs.drop (k + 1))).bind fun ys => .ok (y :: ys)
              | _ => .stuck).bind fun r => .ok (.lst (ys ++ r))) := l2
              cases zm : me ((demote Bi ρ).set i (.val d)) ω with
              | stuck => rw [zm] at l2; exact l2.elim
              | err e => rw [zm] at l2; exact l2.elim
              | ok y =>
                rw [zm] at l2
                intro yv H5 s5 ry
                have s45 := s4.trans s5
                have hacc5 := s45 _ _ hacc3
                refine ⟨acc, hacc5, by rw [sizeLine_eq]; omega, ?_⟩
                have k5 : Kp H5 (upd H5 z (.lst (acc ++ [yv]))) (Fn L (i :: (Bi ++ Be)) z) (Fn L (i :: (Bi ++ Be)) z) (obs L) (obs L) :=
                  ⟨fun _ _ f _ => f, fun a u f h => by rw [upd_ne f.2]; exact h, fun a vs h => by rw [upd_ne (fun e => by rw [e, hacc5] at h; cases h)]; exact h, fun _ _ h => h⟩
                refine ⟨_, ys ++ [y], acc ++ [yv], (R3.same s45).chg LD hacc5, w.kp _ _ _ _ _ _ (w.kp _ _ _ _ _ _ p3 (Kp.same s45)) (kp_chg LD hacc5), upd_same, by rw [List.length_append]; exact Nat.succ_le_succ hal, Same.upd_left (Same.trans s3 s45) hz0,
                  Reps.mono k5 _ _ ((racc3.same s45).app (Reps.one (Rep.mono (kL H5) _ _ ry))), ?_⟩
                cases zc : compL i tt me ω (demote Bi ρ) (xs.drop (k + 1)) with
                | stuck => rw [zc] at l2; exact l2.elim
                | err e => rw [zc] at l2; exact l2
                | ok rs =>
                  rw [zc] at l2
                  show LeafF W Wx L (i :: (Bi ++ Be)) σ H Q (.ok (.lst (ys ++ [y] ++ rs)))
                  rw [List.append_assoc]
                  exact l2
        · have e : k = xs.length := by omega
          subst e
          refine .inl ⟨w.stop _ _ _ H2 p2 (Nat.le_refl _), ?_⟩
          rw [List.drop_length] at l2
          replace l2 : LeafF W Wx L (i :: (Bi ++ Be)) σ H Q (.ok (.lst (ys ++ []))) := l2
          rw [List.append_nil] at l2
          exact l2.ret s2 hz0 ⟨acc, hacc, racc⟩
      · exact h.elim
  · exact h.elim
section
variable {X : Cx} {Wx : WX} {pos spos p py : Pos} {elt iter : Expr} {Bi Be : List Nat} {ms : MA} {i n : Nat} {x y : Str} {scope : Scope} {tt : Env' → Store → Res Bool} {me : M} {ifs : List Expr} {tg : Expr}
/-- no condition -/
structure DTs (X : Cx) (Wx : WX) (ifs : List Expr) (m : Env' → Store → Res Bool) : Prop where
  pts : PTs X ifs (tT (wd X) Wx m)
theorem ts_nil : DTs X Wx [] bTrue := ⟨⟨fun pins s σ H Q I h => by
  obtain ⟨F, ρ, ω, L, R, h⟩ := h
  exact pts_nil.run pins s σ H Q I (h H (Same.refl H))⟩⟩
theorem ts_one {c : Expr} (h : DB X Wx c tt) : DTs X Wx [c] tt := ⟨pts_one h.pt⟩
theorem f_lc {i : Nat} (hc : X.calm = true) (hN : X.N.Nodup) (hi : DI X Wx Bi tg iter ms) (ok : BlkOk X.N X.env.scope scope [(x, i)])
    (hg : ∀ (s : Shared) (H : Hp) (C : Addr) (cl : List (Str × Addr)) (fp : List Addr), PG (X.blk s H scope (compEnvC scope cl C X.env) fp) tg (gName i))
    (ht : ∀ (s : Shared) (H : Hp) (C : Addr) (cl : List (Str × Addr)) (fp : List Addr), DTs (X.blk s H scope (compEnvC scope cl C X.env) fp) W0 ifs tt)
    (he : ∀ (s : Shared) (H : Hp) (C : Addr) (cl : List (Str × Addr)) (fp : List Addr), DP (X.blk s H scope (compEnvC scope cl C X.env) fp) W0 Be elt me) (hs : ∀ x, foldedSetIterable iter X.env x = pure x := by intro _; rfl) :
    DF X Wx (i :: (Bi ++ Be)) (.ListComp elt [⟨tg, iter, ifs, 0⟩] scope pos) (mComp i Bi ms tt me) :=
  ⟨PE.weak (pe_lc hc hN hi.pi ok hg (fun s H C cl fp => (ht s H C cl fp).pts) (fun s H C cl fp => (he s H C cl fp).pe) hs) fun σ H Q ⟨F, ρ, ω, L, R, h⟩ => lc_read R h⟩
end
end DL
namespace DL
open PySem PySem.Spec PyProof.Rows L2

/-! ### what a def does -/
inductive RR where
  | stuck
  | ok (d : D) (ω : Store)
  | er (e : Er) (ω : Store)
abbrev Fu := Nat → List D → Store → RR
def NoSl (L : Lc) : Prop := ∀ i, L (.sl i) = none
def LeafC (W : Wd) (F : Fm) (Q : VK) (E : XK) : RR → Prop
  | .stuck => False
  | .ok d ω => ∀ v H' L', Rel W F [] ω L' [] H' → NoSl L' → Rep W H' (Fr L' []) (obs L') d v → Q v H'
  | .er e ω => ∀ cls dd H' L', Rel W F [] ω L' [] H' → NoSl L' → Exc W H' e cls dd → E cls dd H'
/-- its promise -/
def spF (W : Wd) (n : Nat) (f : Fu) : Sp := fun vs H Q E => vs.length = n ∧ ∃ n0 L ω ds, Rel W ⟨n0, L, H⟩ [] ω L [] H ∧ NoSl L ∧ Reps W H (Fr L []) (obs L) ds vs ∧ LeafC W ⟨n0, L, H⟩ Q E (f n0 ds ω)
@[simp] def toRR : RS → RR
  | .nx _ ω => .ok .non ω
  | .rt d ω => .ok d ω
  | .er e ω => .er e ω
  | _ => .stuck
@[simp] def envS (n : Nat) (ds : List D) : Env' := ds.map .val ++ List.replicate (n - ds.length) .no
@[simp] def fuOf (n : Nat) (g : T) : Fu := fun n0 ds ω => toRR (g n0 (envS n ds) ω)
/-! the slots fall -/
def lcN (L : Lc) : Lc := fun p => match p with
  | .sl _ => none
  | p => L p
theorem lcN_some {L : Lc} {p : Pl} {a : Addr} (h : lcN L p = some a) : L p = some a ∧ ∀ i, p ≠ .sl i := by
  cases p with
  | sl i => cases h
  | fd n f => exact ⟨h, fun i e => by cases e⟩
  | ob n => exact ⟨h, fun i e => by cases e⟩
  | fg a => exact ⟨h, fun i e => by cases e⟩
theorem lcN_no {L : Lc} : NoSl (lcN L) := fun _ => rfl
section
variable {W : Wd} {F : Fm} {ρ ρ' : Env'} {ω ω' : Store} {L L' : Lc} {σ σ' : L2.St} {H H' : Hp} {B : List Nat} {z : Addr}
theorem kp_strip : Kp H H (Fr L []) (Fr (lcN L) []) (obs L) (obs (lcN L)) := ⟨fun a u f _ p e => f p (lcN_some e).1, fun _ _ _ h => h, fun _ _ h => h, fun n a h => h⟩
theorem kp_stripA : Kp H H (FrA L) (Fr (lcN L) []) (obs L) (obs (lcN L)) := ⟨fun a u f _ p e => by
  obtain ⟨i, q⟩ := f p (lcN_some e).1
  exact absurd q ((lcN_some e).2 i), fun _ _ _ h => h, fun _ _ h => h, fun n a h => h⟩
theorem Rel.strip (R : Rel W F ρ ω L σ H) : Rel W F [] ω (lcN L) [] H where
  inj := fun p q a e1 e2 => R.inj p q a (lcN_some e1).1 (lcN_some e2).1
  alive := fun p a e => R.alive p a (lcN_some e).1
  aft := ⟨R.aft.keep, fun i a e => (nomatch e), fun p a m e => R.aft.newM p a m (lcN_some e).1, fun p m => by
    cases p with
    | sl i => exact absurd trivial m
    | fd n f => exact R.aft.prot _ m
    | ob n => exact R.aft.prot _ m
    | fg b => exact R.aft.prot _ m, R.aft.obk, R.aft.there⟩
  fgs := R.fgs
  len := rfl
  sl := fun i s e => by cases e
  st := fun n o e => ObR.places kp_strip (fun f => rfl) (R.st n o e)
  dom := R.dom
theorem Rel.begin {n0 : Nat} {N : List Str} {ds : List D} {vs : List V} (R : Rel W ⟨n0, L, H⟩ [] ω L [] H) (q : Reps W H (Fr L []) (obs L) ds vs) : Rel W ⟨n0, L, H⟩ (envS N.length ds) ω L (L2.start N vs) H where
  inj := R.inj
  alive := R.alive
  aft := R.aft
  fgs := R.fgs
  len := by
    unfold L2.start envS
    rw [List.length_append, List.length_append, List.length_map, List.length_map, List.length_replicate, List.length_replicate, q.len]
  sl := fun i s e => by
    unfold envS at e
    unfold L2.start
    by_cases hi : i < ds.length
    · rw [List.getElem?_append_left (by rw [List.length_map]; exact hi), List.getElem?_map, List.getElem?_eq_getElem hi] at e
      cases e
      obtain ⟨v, e1, r⟩ := q.get (List.getElem?_eq_getElem hi)
      refine ⟨v, ?_, r⟩
      rw [List.getElem?_append_left (by rw [List.length_map, q.len]; exact hi), List.getElem?_map, e1]
      rfl
    · rw [List.getElem?_append_right (by rw [List.length_map]; omega), List.getElem?_replicate] at e
      split at e
      · cases e; trivial
      · cases e
  st := R.st
  dom := R.dom
end
section
variable {P : Program} {w : World} {K : PySem.W.Frag} {mg : Str → Option Value} {base : Heap} {x qual : Str} {params : Arguments} {body : List Stmt} {scope : Scope} {f : Addr} {fd : FuncData} {N ps : List Str} {k : Nat} {g : T}
/-- a def keeps its promise -/
theorem fn_ok (F : FunD K x qual params body scope [] [] f fd) (S : FnScope N ps scope)
    (hbody : ∀ (cdv : Value) (A : Around) (outer : List Env) (s : Shared) (H : Hp) (E : XK), Room k (A.deeper (envOfC qual scope s.heap.objs.size f cdv)) →
      DSs (cxOf (L2.CX P w) P w K mg base N qual scope f cdv A outer s H E) (fun cls d _ H => E cls d H) body g) : FnOk P w K mg base (L2.CX P w) (k + 1) f fd ps (spF ⟨K, mg⟩ ps.length (fuOf N.length g)) := by
  refine F.ok S (fun vs H Q E h => h.1) (fun cdv A outer s H vs Q E hr h => ⟨_, (hbody cdv A outer s H E hr).pss, ?_⟩)
  obtain ⟨hl, n0, L, ω, ds, R, ns, q, h⟩ := h
  refine ⟨⟨n0, L, H⟩, envS N.length ds, ω, L, R.begin q, ?_⟩
  replace h : LeafC ⟨K, mg⟩ ⟨n0, L, H⟩ Q E (toRR (g n0 (envS N.length ds) ω)) := h
  show LeafS ⟨K, mg⟩ _ _ _ (g n0 (envS N.length ds) ω)
  cases z : g n0 (envS N.length ds) ω with
  | stuck => rw [z] at h; exact h
  | bk ρ ω => rw [z] at h; exact h.elim
  | ct ρ ω => rw [z] at h; exact h.elim
  | nx ρ' ω' => rw [z] at h; exact fun σ' H' L' R' => h _ H' _ R'.strip lcN_no rfl
  | rt d ω' => rw [z] at h; exact fun v ρ' σ' H' L' R' r => h _ H' _ R'.strip lcN_no (Rep.mono kp_stripA d v r)
  | er e ω' => rw [z] at h; exact fun cls dd ρ' σ' H' L' R' r => h _ _ H' _ R'.strip lcN_no r
end
/-! ### a call -/
section
open Classical in
noncomputable def lcC (L : Lc) (B : List Nat) : Lc := fun p => match p with
  | .sl _ => none
  | .fg a => if L (.fg a) = some a ∨ ∃ i, i ∉ B ∧ L (.sl i) = some a then some a else none
  | p => L p
end
section
variable {W : Wd} {F : Fm} {ρ ρ' : Env'} {ω ω' : Store} {L L' : Lc} {σ σ' : L2.St} {H H' : Hp} {B : List Nat} {z : Addr}
theorem lcC_some {p : Pl} {a : Addr} (h : lcC L B p = some a) : ∃ p', L p' = some a ∧ ((p' = p ∧ ∀ i, p ≠ .sl i) ∨ (p = .fg a ∧ ∃ i, i ∉ B ∧ p' = .sl i)) := by
  cases p with
  | sl i => cases h
  | fd n f => exact ⟨_, h, .inl ⟨rfl, fun i e => by cases e⟩⟩
  | ob n => exact ⟨_, h, .inl ⟨rfl, fun i e => by cases e⟩⟩
  | fg b =>
    unfold lcC at h
    dsimp only at h
    split at h
    · rename_i c
      cases h
      rcases c with c | ⟨i, m, c⟩
      · exact ⟨_, c, .inl ⟨rfl, fun i e => by cases e⟩⟩
      · exact ⟨_, c, .inr ⟨rfl, i, m, rfl⟩⟩
    · cases h
theorem lcC_fg {a : Addr} (h : L (.fg a) = some a ∨ ∃ i, i ∉ B ∧ L (.sl i) = some a) : lcC L B (.fg a) = some a := by
  unfold lcC
  dsimp only
  rw [if_pos h]
theorem lcC_no : NoSl (lcC L B) := fun _ => rfl
theorem kp_call : Kp H H (Fr L B) (Fr (lcC L B) []) (obs L) (obs (lcC L B)) := ⟨fun a u f _ p e => by
  obtain ⟨p', e1, e2⟩ := lcC_some e
  obtain ⟨i, m, q⟩ := f p' e1
  rcases e2 with ⟨e2, e3⟩ | ⟨e2, j, mj, e3⟩
  · exact absurd (e2.symm.trans q) (e3 i)
  · rw [q] at e3
    cases e3
    exact absurd m mj, fun _ _ _ h => h, fun _ _ h => h, fun n a h => h⟩
theorem kp_call0 : Kp H H (Fr L []) (Fr (lcC L B) []) (obs L) (obs (lcC L B)) := ⟨fun a u f h => kp_call.s a u (Fr.mono (fun _ h => by cases h) f) h, fun _ _ _ h => h, fun _ _ h => h, fun n a h => h⟩
theorem SltR.exw {p : Pl} {ex ex' : Bool} (w : ex' = true → ex = true) : ∀ {s : Sl} {v : Option V}, SltR W H L p ex s v → SltR W H L p ex' s v
  | .no, _, _ => trivial
  | .val d, v, h => h
  | .own d, v, ⟨a, e, l, h⟩ => ⟨a, e, l, RepO.mono (Kp.same (Same.refl H)) (fun u h => ⟨fun q => h.1 (w q), h.2⟩) (fun _ h => h) h⟩
theorem FsR.exw {n : Nat} {ex ex' : Bool} (w : ex' = true → ex = true) : ∀ {fs : List (Str × Sl)} {vs : List (Str × V)}, FsR W H L n ex fs vs → FsR W H L n ex' fs vs
  | [], _, h => h
  | (f, x) :: r, _, ⟨v, t, e, h, q⟩ => ⟨v, t, e, SltR.exw w h, FsR.exw w q⟩
theorem ObR.exw {n : Nat} {ex ex' : Bool} {o : Ob} (w : ex' = true → ex = true) (h : ObR W H L ex n o) : ObR W H L ex' n o := by
  obtain ⟨p, C, dx, fs, e1, e2, e3, q⟩ := h.at_
  exact ⟨p, C, dx, fs, e1, e2, e3, FsR.exw w q⟩
/-- what the callee meets -/
theorem Rel.into (R : Rel W F ρ ω L σ H) (B : List Nat) (n1 : Nat) (hn : ∀ n, n < ω.length → n1 ≤ n → F.n0 ≤ n) : Rel W ⟨n1, lcC L B, H⟩ [] ω (lcC L B) [] H where
  inj := fun p q a e1 e2 => by
    obtain ⟨p', f1, g1⟩ := lcC_some e1
    obtain ⟨q', f2, g2⟩ := lcC_some e2
    have e := R.inj p' q' a f1 f2
    subst e
    rcases g1 with ⟨g1, k1⟩ | ⟨g1, i, mi, k1⟩
    · rcases g2 with ⟨g2, k2⟩ | ⟨g2, j, mj, k2⟩
      · exact g1.symm.trans g2
      · exact absurd (g1.symm.trans k2) (k1 j)
    · rcases g2 with ⟨g2, k2⟩ | ⟨g2, j, mj, k2⟩
      · exact absurd (g2.symm.trans k1) (k2 i)
      · exact g1.trans g2.symm
  alive := fun p a e => by
    obtain ⟨p', f1, _⟩ := lcC_some e
    exact R.alive p' a f1
  aft := Aft.refl
  fgs := fun a b e => by
    unfold lcC at e
    dsimp only at e
    split at e
    · exact (Option.some.inj e).symm
    · cases e
  len := rfl
  sl := fun i s e => by cases e
  st := fun n o e => by
    have hl : n < ω.length := (List.getElem?_eq_some_iff.mp e).1
    refine ObR.exw (ex := decide (F.n0 ≤ n)) (fun q => ?_) (ObR.places (kp_call0) (fun f => rfl) (R.st n o e))
    exact decide_eq_true (hn n hl (of_decide_eq_true q))
  dom := R.dom
end
end DL
namespace DL
open PySem PySem.Spec PyProof.Rows L2

/-! ### the pure call -/
section
variable {W : Wd} {F : Fm} {ρ ρ' : Env'} {ω ω' : Store} {L L' : Lc} {σ σ' : L2.St} {H H' : Hp} {B : List Nat} {z : Addr}
@[simp] def ofRR (ω : Store) : RR → Res D
  | .stuck => .stuck
  | .ok d ω' => if ω'.length = ω.length then .ok d else .stuck
  | .er e _ => .err e
@[simp] def mCall (n : Nat) (f : Fu) (ma : MA) : M := fun ρ ω => (ma ρ ω).bind fun ds => if ds.length = n then ofRR ω (f ω.length ds ω) else .stuck
theorem call_keep {n1 : Nat} (R : Rel W F ρ ω L σ H) (R' : Rel W ⟨n1, lcC L B, H⟩ [] ω' L' [] H') (hn : ω.length ≤ n1) : Same H H' := fun a u h => R'.aft.keep a u h fun p e m => by
  cases p with
  | sl i => cases e
  | fg b => exact m
  | fd n f =>
    have z := (R.dom n (Nat.le_trans hn m)).2 f
    have e : L (.fd n f) = some a := e
    rw [z] at e; cases e
  | ob n =>
    have z := (R.dom n (Nat.le_trans hn m)).1
    have e : L (.ob n) = some a := e
    rw [z] at e; cases e
theorem call_back {n1 : Nat} (R : Rel W F ρ ω L σ H) (R' : Rel W ⟨n1, lcC L B, H⟩ [] ω' L' [] H') (hn : ω.length ≤ n1) (hl : ω'.length = ω.length) : Kp H' H' (Fr L' []) (Fr L B) (obs L') (obs L) where
  s := fun a u f h p e => by
    have no : ∀ q, L' q = some a → False := fun q z => by
      obtain ⟨i, m, _⟩ := f q z
      cases m
    cases p with
    | sl i =>
      by_cases m : i ∈ B
      · exact ⟨i, m, rfl⟩
      · exact (no _ ((R'.aft.prot (.fg a) (fun z => z)).trans (lcC_fg (.inr ⟨i, m, e⟩)))).elim
    | fg b =>
      have := R.fgs b a e
      subst this
      exact (no _ ((R'.aft.prot (.fg a) (fun z => z)).trans (lcC_fg (.inl e)))).elim
    | fd n f =>
      refine (no _ ((R'.aft.prot (.fd n f) (fun z => ?_)).trans e)).elim
      rw [(R.dom n (Nat.le_trans hn z)).2 f] at e; cases e
    | ob n =>
      refine (no _ ((R'.aft.prot (.ob n) (fun z => ?_)).trans e)).elim
      rw [(R.dom n (Nat.le_trans hn z)).1] at e; cases e
  k := fun _ _ _ h => h
  t := fun _ _ h => h
  o := fun n a h => by
    have h : L' (.ob n) = some a := h
    by_cases hd : n < ω.length
    · have := R'.aft.prot (.ob n) (fun z => absurd (Nat.lt_of_lt_of_le hd hn) (Nat.not_lt.mpr z))
      rw [h] at this
      exact this.symm
    · rw [(R'.dom n (by omega)).1] at h; cases h
end
section
variable {X : Cx} {Wx : WX} {pos p p' p1 p2 apos cpos : Pos} {a b c e : Expr} {es : List Expr} {Ba Bb B : List Nat} {ma mb m : M} {x y : Str} {k fa : Nat} {f : Addr} {fd : FuncData} {ps : List Str} {g : Fu} {mr : MA} {i : Nat}
theorem d_call {g : Fu} (F : FnOk X.prog X.w X.K X.mg X.base (L2.CX X.prog X.w) k f fd ps (spF (wd X) ps.length g)) (hr : Room k X.A) (hg : Gl X x) (hm : X.mg x = some (.ref f)) (hk : PySem.W.keepIn X.K (.ref f) = true) (hb : Binds X.K fd ps []) (tk : Takes X Wx)
    (ha : DA X Wx B (e :: es) mr) (hdb : (x == ("__debug__" : Str)) = false := by decide) (he : starEach (e :: es) X.env = (false, eval e X.env) :: starEach es X.env := by rfl) (hpl : (backTo pos (starEach es X.env)).any (·.1) = false := by rfl) :
    DP X Wx B (.Call (.Name x p) (e :: es) [] pos) (mCall ps.length g mr) :=
  ⟨PE.weak (pe_callSD F hr hg hm hk hb .nil (passAt tk) ha.pa hdb he hpl) fun σ H Q ⟨F0, ρ, ω, L, R, h⟩ => by
    refine ⟨F0, ρ, ω, L, R, ?_⟩
    unfold mCall at h
    cases z : mr ρ ω with
    | stuck => rw [z] at h; exact h
    | err e => rw [z] at h; exact h
    | ok ds =>
      rw [z] at h
      replace h : Leaf (wd X) Wx L B σ H Q (if ds.length = ps.length then ofRR ω (g ω.length ds ω) else .stuck) := h
      intro vs H1 s q
      have R1 := R.same s
      split at h
      case isFalse => exact h.elim
      rename_i hds
      have hlen : ps.length = vs.length := by rw [q.len, hds]
      rw [List.append_nil]
      refine ⟨hlen.symm, ω.length, lcC L B, ω, ds, R1.into B ω.length (fun n h1 h2 => absurd h1 (Nat.not_lt.mpr h2)), lcC_no, Reps.mono kp_call ds vs q, ?_⟩
      cases zg : g ω.length ds ω with
      | stuck => rw [zg] at h; exact h
      | er e ω' => 
        rw [zg] at h
        exact fun cls dd H2 L' R' ns x => h cls dd H2 (s.trans (call_keep R1 R' (Nat.le_refl _))) x
      | ok d ω' =>
        rw [zg] at h
        replace h : Leaf (wd X) Wx L B σ H Q (if ω'.length = ω.length then .ok d else .stuck) := h
        split at h
        · rename_i hl
          exact fun v H2 L' R' ns r => h v H2 (s.trans (call_keep R1 R' (Nat.le_refl _))) (Rep.mono (call_back R1 R' (Nat.le_refl _) hl) d v r)
        · exact h.elim⟩
end
/-! ### a change at a place -/
section
variable {W : Wd} {F : Fm} {ρ ρ' : Env'} {ω ω' : Store} {L L' : Lc} {σ σ' : L2.St} {H H' : Hp} {B : List Nat} {a : Addr} {u : HO} {p : Pl}
theorem kp_poke (R : Rel W F ρ ω L σ H) (hp : L p = some a) (np : ∀ i, p ≠ .sl i ∨ B = []) (hu : isC u = true) : Kp H (upd H a u) (Fr L []) (Fr L []) (obs L) (obs L) where
  s := fun _ _ f _ => f
  k := fun b v f h => by
    have n : b ≠ a := fun e => by
      subst e
      obtain ⟨i, m, _⟩ := f p hp
      cases m
    rw [upd_ne n]; exact h
  t := fun b vs h => by
    rw [upd_ne (fun e => by
      subst e
      obtain ⟨w, h1, c⟩ := R.alive p b hp
      rw [h] at h1
      cases h1
      cases c)]
    exact h
  o := fun _ _ h => h
theorem ne_poke (R : Rel W F ρ ω L σ H) (hp : L p = some a) {q : Pl} {b : Addr} (nq : q ≠ p) (hq : L q = some b) : b ≠ a := fun e => nq (R.inj q p b hq (by rw [e]; exact hp))
theorem aft_poke (R : Rel W F ρ ω L σ H) (hp : L p = some a) (m : Mt F.n0 p) : Aft F.n0 F.L0 F.H0 L (upd H a u) where
  keep := fun b v h hb => by
    have n : b ≠ a := fun e => by
      subst e
      rcases R.aft.new p b m hp with ⟨q, mq, eq⟩ | z
      · exact hb q eq mq
      · rw [h] at z; cases z
    rw [upd_ne n]
    exact R.aft.keep b v h hb
  newS := R.aft.newS
  newM := R.aft.newM
  prot := R.aft.prot
  obk := R.aft.obk
  there := fun b v h => by
    by_cases e : b = a
    · exact ⟨u, by rw [e, upd_same]⟩
    · obtain ⟨w, q⟩ := R.aft.there b v h
      exact ⟨w, by rw [upd_ne e]; exact q⟩
theorem alive_poke (R : Rel W F ρ ω L σ H) (hp : L p = some a) (hu : isC u = true) : ∀ q b, L q = some b → ∃ v, upd H a u b = some v ∧ isC v = true := fun q b e => by
  by_cases h : b = a
  · exact ⟨u, by rw [h, upd_same], hu⟩
  · obtain ⟨v, h1, c⟩ := R.alive q b e
    exact ⟨v, by rw [upd_ne h]; exact h1, c⟩
theorem Rel.pokeS (R : Rel W F ρ ω L σ H) {i : Nat} (hp : L (.sl i) = some a) (hu : isC u = true) {d : D} (hs : σ[i]?.join = some (.ref a)) (hd : RepO W (upd H a u) (Fr L []) (obs L) true d a) : Rel W F (ρ.set i (.own d)) ω L σ (upd H a u) where
  inj := R.inj
  alive := alive_poke R hp hu
  aft := aft_poke R hp trivial
  fgs := R.fgs
  len := by rw [List.length_set]; exact R.len
  sl := fun j s e => by
    by_cases h : j = i
    · subst h
      have hl : j < ρ.length := by
        have := (List.getElem?_eq_some_iff.mp e).1
        rwa [List.length_set] at this
      rw [List.getElem?_set_self hl] at e
      cases e
      exact ⟨a, hs, hp, hd⟩
    · rw [List.getElem?_set_ne (Ne.symm h)] at e
      exact SltR.chg (kp_poke (B := []) R hp (fun _ => .inr rfl) hu) (fun b q => upd_ne (ne_poke R hp (fun z => h (by cases z; rfl)) q)) (R.sl j s e)
  st := fun n o e => by
    obtain ⟨q, C, dx, fs, e1, e2, e3, r⟩ := (R.st n o e).at_
    exact ⟨q, C, dx, fs, e1, e2, by rw [upd_ne (ne_poke R hp (fun z => by cases z) e1)]; exact e3, FsR.chg (kp_poke (B := []) R hp (fun _ => .inr rfl) hu) (fun f b q => upd_ne (ne_poke R hp (fun z => by cases z) q)) r⟩
  dom := R.dom
end
/-! ### name.append(e) -/
section
variable {X : Cx} {Wx : WX} {pos p p' p1 p2 apos cpos : Pos} {a b c e : Expr} {es : List Expr} {Ba Bb B : List Nat} {ma mb m : M} {x y : Str} {i : Nat}
@[simp] noncomputable def sApp (i : Nat) (B : List Nat) (m : M) : T := fun _ ρ ω => match ρ[i]? with
  | some (.own (.lst _)) => ofE (m ρ ω) ω fun d => (match (dem B d ρ)[i]? with
    | some (.own (.lst xs)) => @ite _ (xs.length < 1000000) (Classical.propDecidable _) (.nx ((dem B d ρ).set i (.own (.lst (xs ++ [d])))) ω) .stuck
    | _ => .stuck)
  | _ => .stuck
theorem slot_at {σ : L2.St} {i : Nat} {v : V} (h : σ[i]?.join = some v) : σ[i]? = some (some v) := by
  cases z : σ[i]? with
  | none => rw [z] at h; cases h
  | some y => rw [z] at h; exact congrArg some h
theorem s_app (i : Nat) (he : DP X Wx B e m) (hN : X.N[i]? = some x := by rfl) (hv : Vis X.env.scope x := by first | exact Or.inl rfl | exact Or.inr (Or.inl rfl) | exact Or.inr (Or.inr rfl)) (hd : (x == ("__debug__" : Str)) = false := by decide)
    (hcd : (x == ("__classdict__" : Str)) = false := by decide)
    (hbase : attributeBase (.Name x p) "append" X.env (eval (.Name x p) X.env) = eval (.Name x p) X.env := by rfl)
    (hfew : ((backTo cpos (starEach (e :: []) X.env)).all (fun x => !x.1) && (backToKw cpos (keywordEach [] X.env)).all (fun x => x.1.isSome)
      && decide ((e :: ([] : List Expr)).length + ([] : List Keyword).length + (if ([] : List Keyword).isEmpty then 0 else 1) < 30)) = true := by rfl)
    (hline : (apos.endLine == cpos.line) = true := by rfl) (hs : starEach (e :: []) X.env = (false, eval e X.env) :: starEach [] X.env := by rfl) (hplain : (backTo cpos (starEach [] X.env)).any (·.1) = false := by rfl)
    (hsw : swapsWith (.Call (.Attribute (.Name x p) "append" apos) [e] [] cpos) none pos.line X.env = pure false := by rfl) :
    DS X Wx (.Expr (.Call (.Attribute (.Name x p) "append" apos) [e] [] cpos) pos) (sApp i B m) :=
  ⟨PS.weak (ps_expr (pe_bm PySem.F.plainAttrs_list PySem.F.slot_list_append PySem.F.type_list_append mt_append (pe_var (i := i) hN hv hd hcd) (pa_cons he.pe pa_nil hs) hbase hfew hline hs hplain) hsw) fun G σ H ⟨F, ρ, ω, L, R, h⟩ => by
    unfold sApp at h
    split at h
    · rename_i xs0 e0
      obtain ⟨a, e1, l, vs0, h1, _⟩ := R.sl i _ e0
      refine ⟨.ref a, slot_at e1, .inl ⟨rfl, vs0, SqL.of h1⟩, F, ρ, ω, L, R, leafS_bind (k := fun d => match (dem B d ρ)[i]? with
    | some (.own (.lst xs)) => @ite _ (xs.length < 1000000) (Classical.propDecidable _) (.nx ((dem B d ρ).set i (.own (.lst (xs ++ [d])))) ω) .stuck
    | _ => .stuck) R h fun d v H1 _ s R1 q lf => ?_⟩
      obtain ⟨L2, R2, q2⟩ := R1.loosen q
      split at lf
      · rename_i xs ei
        split at lf
        · rename_i hlen
          obtain ⟨b, f1, l2, vs, h2, r2⟩ := R2.sl i _ ei
          have eb : b = a := by
            have := f1.symm.trans e1
            exact V.ref.inj (Option.some.inj this)
          subst eb
          refine ⟨b, vs, v, rfl, rfl, h2, by rw [r2.len, sizeLine_eq]; omega, lf _ _ L2 (R2.pokeS l2 rfl f1 ⟨vs ++ [v], upd_same, ?_⟩)⟩
          exact (Reps.mono (kp_poke (B := []) R2 l2 (fun _ => .inr rfl) rfl) _ _ r2).app (Reps.one (Rep.mono (kp_poke (B := []) R2 l2 (fun _ => .inr rfl) rfl) _ _ q2))
        · exact lf.elim
      · exact lf.elim
    · exact h.elim⟩
end
end DL
namespace DL
open PySem PySem.Spec PySem.Calls PyProof.Rows L2
open PySem.W (Frag InstAt Looks KitX findIn subIn hasDictIn typeIn specialIn takesIn mroIn keepIn findObj)

/-! ### isinstance of an exception that has its dict -/
section
variable {prog : Program} {w : World} {A : Around} {E : Value → Shared → Prop} {s : Shared} {K : Frag} {x D : Addr} {ox od : Obj}
theorem exd_class {Q : Option Value → Shared → Prop} (c : ExcC K D) (X : K.In s.heap) (I : InstAt s.heap x ox D (some od)) (h : Q (some (.ref D)) { s with toks := s.toks + 1 }) : wpAny (model prog w) A (getAttr? (.ref x) "__class__") Q E s := by
  have own : findObj K D (some od) "__class__" = some (.bind (.builtin "getset_descriptor.__get__") (.builtin "object.__class__")) := PySem.W.findObj_data (by obtain ⟨cd, hc, _⟩ := PySem.W.any_some c.hd; rw [hc]; rfl) c.ha c.hn c.ht
  obtain ⟨hp, g, d, t, os⟩ := s
  have T0 := I.type (M := model prog w)
  have T1 := PySem.W.looks_findIn (M := model prog w) X c.hg
  have T2 := PySem.W.looks_findIn (M := model prog w) X c.hk
  have T3 := PySem.W.looks_find (M := model prog w) X I own
  have T4 : Looks (model prog w) hp (isInstance (.ref x) (.type "BaseException")) true := T0.andThen (PySem.W.looks_subIn X c.hs)
  have n2 : (Value.builtin "BaseException.__getattribute__" == Value.builtin "object.__getattribute__") = false := by decide +kernel
  have n1 : (onTheHeap (Value.ref D) && Value.builtin "BaseException.__getattribute__" == Value.builtin "object.__getattribute__") = false := by rw [n2]; rfl
  unfold getAttr? getAttrBy? getAttrBy; refine wpAny_bind (wpAny_mkText (wpAny_bind (wpAny_attempt (wpAny_holding (wpAny_bind (T0.at (wpAny_bind (T1.at ?_))))))))
  show wpAny _ _ (if (onTheHeap (Value.ref D) && Value.builtin "BaseException.__getattribute__" == Value.builtin "object.__getattribute__") = true then _ else _) _ _ _; rw [n1, if_neg Bool.false_ne_true]
  unfold getAttrByItsOwn hookBefore; refine wpAny_bind ?_; rw [if_pos (show onTheHeap (Value.ref D) = true from rfl)]; refine T2.at ?_
  refine wpAny_bind (wpAny_attempt (wpAny_holding ?_)); unfold callGetattribute; rw [show (false && onTheHeap (Value.builtin "BaseException.__getattribute__")) = false from rfl, if_neg Bool.false_ne_true]
  unfold boundAndCalled; rw [PySem.F.excAttr_ValueError.ga.bind (.ref x)]; refine wpAny_bind (wpAny_pure ?_); show wpAny _ _ (call (.builtin "BaseException.__getattribute__") [.ref x, .str "__class__" t]) _ _ _
  refine wpAny_call (codeAny_call_builtin PySem.F.excAttr_ValueError.ga.plain PySem.F.entry_bexc_ga ?_); refine @PySem.W.check_slot (model prog w) _ _ ⟨hp, g, d, t + 1, os⟩ "BaseException.__getattribute__" "BaseException" "__getattribute__" (.ref x) [.str "__class__" t] [] _ (by decide +kernel) (by decide +kernel) T4 (PySem.F.args_bexc_ga (.ref x) (.str "__class__" t)) ?_
  unfold Builtin.«object.__getattribute__»; refine wpAny_bind (wpAny_of_eq (a := ((Value.ref x : Value), [Value.str "__class__" t])) (by first | rfl | (simp only [slotArgs]; rfl)) ?_)
  refine wpAny_bind (wpAny_pure (wpAny_bind (T0.at (wpAny_bind (T3.at ?_))))); show wpAny _ _ (holding [Value.builtin "object.__class__"] (call (.builtin "getset_descriptor.__get__") [.builtin "object.__class__", .ref x, .ref D]) >>= ret) _ _ _
  refine wpAny_bind (wpAny_holding (wpAny_call (PySem.W.class_get (s := ⟨hp, g, d, t + 1, os⟩) (ox := ox) (od := some od) X I c.hm ?_)))
  refine wpAny_pure ?_; show wpAny _ _ (handedOut (.ref D)) _ _ _; rw [PySem.W.handedOut_of (v := .ref D) rfl]
  first
    | exact wpAny_pure (wpAny_pure h)
    | exact wpAny_pure h
    | exact wpAny_pure (wpAny_bind (wpAny_pure (wpAny_pure h)))
theorem exd_kit (c : ExcC K D) : KitX K (.ref x) (.ref D) (fun h => InstAt h x ox D (some od)) where
  ty := fun _ _ _ I => I.type
  it := fun _ _ X _ => by
    obtain ⟨q, hq, _⟩ := PySem.W.any_some c.hd
    unfold PySem.W.clsIn at hq
    split at hq
    · rename_i o1 o2 o3 o4 ho
      exact fun A' Q' E' s' k q => by unfold isType loadHead; exact wpAny_bind (wpAny_loadPart (k _ _ (X _ _ ho)) (wpAny_pure q))
    · cases hq
  ne := fun h tp dd its n sl X htp => Bool.eq_false_iff.mpr fun q => by
    obtain ⟨z, hz, _⟩ := PySem.W.any_some c.hd
    have e : D = tp := Value.ref.inj (beq_iff_eq.mp q)
    subst e
    unfold PySem.W.clsIn at hz
    split at hz
    · rename_i o1 o2 o3 o4 ho; have y := (X _ _ ho).symm.trans htp; cases y
    · cases hz
  ca := fun X I k => exd_class c X I k
end

/-! ### what the text says of an exception's class -/
structure EC (K : Frag) (mg : Str → Option Value) (c : Str) (C fI : Addr) : Prop where
  mg : mg c = some (.ref C)
  ox : OexC K C
  iC : findIn K (.ref C) "__init__" = some (some (.ref fI))
  tI : typeIn K (.ref fI) = some (.type "function")
  no : findIn K (.ref C) "word" = some none
  xf : XfC K C
  xc : ExcC K C
def oexB (K : Frag) (C : Addr) : Bool := match K.lookup C with
  | some ⟨.type "type", _, .cls cd, sl⟩ => (match cd.mro, sl.toList with
    | .ref C' :: bm, [_, _, _, _, some (.builtin n), _] => decide (C' = C) && (decide (n = "ValueError.__new__") && (cd.hasDict && (!cd.hasDel && PySem.HandSPX.refsVE bm)))
    | _, _ => false)
  | _ => false
theorem oexB_ok {K : Frag} {C : Addr} (h : oexB K C = true) : ∃ nm q N bs bm sn sub ab col dd k0 k1 k2 k3 k5, K.lookup C = some (excClassObj nm q C N bs bm true sn sub ab col dd k0 k1 k2 k3 k5 "ValueError.__new__") ∧ PySem.HandSPX.refsVE bm = true := by
  unfold oexB at h
  split at h
  · rename_i dd cd sl lk
    split at h
    · rename_i C' bm k0 k1 k2 k3 n k5 e1 e2
      obtain ⟨h1, h⟩ := Bool.and_eq_true_iff.mp h
      obtain ⟨h2, h⟩ := Bool.and_eq_true_iff.mp h
      obtain ⟨h3, h⟩ := Bool.and_eq_true_iff.mp h
      obtain ⟨h4, h5⟩ := Bool.and_eq_true_iff.mp h
      have a1 := of_decide_eq_true h1
      have a2 := of_decide_eq_true h2
      subst a1 a2
      obtain ⟨sl⟩ := sl
      have e2 : sl = _ := e2
      subst e2
      obtain ⟨c1, c2, c3, c4, c5, c6, c7, c8, c9, c10, c11⟩ := cd
      have g1 : c3 = .ref C' :: bm := e1
      have g3 : c6 = true := h3
      have g4 : c11 = false := by
        have h4 : (!c11) = true := h4
        cases c11 with
        | false => rfl
        | true => cases h4
      clear h3 h4 e1
      subst g1 g3 g4
      exact ⟨_, _, _, _, bm, _, _, _, _, _, _, _, _, _, _, lk, h5⟩
    · cases h
  · cases h
def eqV (a b : Option Value) : Bool := decide (a = b)
def eqB (a b : Option Bool) : Bool := decide (a = b)
def ecL (K : Frag) (c : Str) : List Bool :=
  let C := He.ga K c
  let fI := He.ma K C "__init__"
  [oexB K C, He.eqO (findIn K (.ref C) "__setattr__") (some (some (.builtin "object.__setattr__"))), eqB (subIn K (.ref C) (.type "BaseException")) (some true), eqV (typeIn K (.ref C)) (some (.type "type")), keepIn K (.ref C),
   He.eqO (findIn K (.ref C) "__init__") (some (some (.ref fI))), eqV (typeIn K (.ref fI)) (some (.type "function")), He.eqO (findIn K (.ref C) "word") (some none), xfB K C,
   He.eqO (findIn K (.ref C) "__class__") (some (some (.builtin "object.__class__"))), He.eqO (specialIn K (.builtin "object.__class__") "__get__") (some (some (.builtin "getset_descriptor.__get__"))), eqB (takesIn K (.builtin "object.__class__")) (some true), eqB (mroIn K C (.type "object")) (some true), He.eqO (PySem.W.nsIn K mainGlobals c) (some (some (.ref C)))]
theorem ecL_ok {K : Frag} {h : Heap} {mg : Str → Option Value} {c : Str} (X : K.In h) (G : h.Ns mainGlobals mg) (q : (ecL K c).all id = true) : EC K mg c (He.ga K c) (He.ma K (He.ga K c) "__init__") := by
  have a : ∀ b ∈ ecL K c, b = true := fun b hb => List.all_eq_true.mp q b hb
  unfold ecL at a
  simp only [List.mem_cons, List.not_mem_nil, or_false, forall_eq_or_imp, forall_eq] at a
  obtain ⟨a1, a2, a3, a4, a5, a6, a7, a8, a9, a10, a11, a12, a13, a14⟩ := a
  have xf := xfB_ok a9
  exact ⟨PySem.W.mg_of X G (He.eqO_ok a14), ⟨oexB_ok a1, He.eqO_ok a2, of_decide_eq_true a3, of_decide_eq_true a4, a5⟩, He.eqO_ok a6, of_decide_eq_true a7, He.eqO_ok a8, xf, ⟨xf.ga, xf.gg, xf.exC, xf.hdC, He.eqO_ok a10, He.eqO_ok a11, of_decide_eq_true a12, of_decide_eq_true a13⟩⟩
/-- a def read off a class -/
structure CF (K : Frag) (C : Addr) (m : Str) (f : Addr) : Prop where
  ga : specialIn K (.ref C) "__getattribute__" = some (some (.builtin "type.__getattribute__"))
  rd : PySem.W.readsIn K C (.type "type") = true
  at_ : PySem.W.findCls K (.ref C) (.type "type") m = some (.val (.ref f))
def cfB (K : Frag) (c m : Str) : Bool := He.eqO (specialIn K (.ref (He.ga K c)) "__getattribute__") (some (some (.builtin "type.__getattribute__"))) && (PySem.W.readsIn K (He.ga K c) (.type "type") && (match PySem.W.findCls K (.ref (He.ga K c)) (.type "type") m with
  | some (.val v) => decide (v = .ref (He.ma K (He.ga K c) m))
  | _ => false))
theorem cfB_ok {K : Frag} {c m : Str} (h : cfB K c m = true) : CF K (He.ga K c) m (He.ma K (He.ga K c) m) := by
  obtain ⟨h1, h⟩ := Bool.and_eq_true_iff.mp h
  obtain ⟨h2, h3⟩ := Bool.and_eq_true_iff.mp h
  refine ⟨He.eqO_ok h1, h2, ?_⟩
  split at h3
  · rename_i v e
    rw [e, of_decide_eq_true h3]
  · cases h3
section
variable {X : Cx} {CX : CXT} {k : Nat} {C f : Addr} {fd : FuncData} {ps : List Str} {sp : Sp} {dvs : List V} {ds : List Value} {E : XK} {x m : Str} {p pos pos2 apos : Pos} {e o : Expr} {es : List Expr} {t : TA} {pl : Sem Bool}
/-- C.m(e, ..), C a class, m its def -/
theorem pe_clsfun (hg : Gl X x) (hm : X.mg x = some (.ref C)) (cf : CF X.K C m f) (kp : keepIn X.K (.ref f) = true) (F : FnOk X.prog X.w X.K X.mg X.base CX k f fd ps sp) (hr : Room k X.A) (hb : Binds X.K fd ps ds) (hd : Vals dvs ds) (hx : Passes CX X E) (ha : PA X (e :: es) t)
    (hdb : (x == ("__debug__" : Str)) = false := by decide) (hst : starEach (e :: es) X.env = (false, eval e X.env) :: starEach es X.env := by rfl) (hpl : (backTo pos (starEach es X.env)).any (·.1) = false := by rfl)
    (ht : eval (.Call (.Attribute (.Name x p) m apos) (e :: es) [] pos) X.env = (do
      let ov ← eval (.Name x p) X.env
      standAt apos.atName
      let (f, first) ← holding [ov] (getMethod ov m pl)
      callWith pos f first (backTo pos (starEach (e :: es) X.env)) (backToKw pos (keywordEach [] X.env))) := by rfl) :
    PE X (.Call (.Attribute (.Name x p) m apos) (e :: es) [] pos) (tCall sp dvs E t) := by
  refine ⟨fun pins s σ H Q I h => PySem.W.methodCall_KW (pl := pl) (ld_glob I hg hm ?_ hdb) ht⟩
  refine PySem.W.method_cls I.kIn cf.ga (PySem.W.cls_value I.kIn cf.rd cf.at_ (handed_of (v := .ref f) rfl) ?_)
  refine PySem.W.callWith_K (first := []) (h₀ := X.base) I.ok.mod.kin kp (thn (ha.run pos pins _ σ H _ (I.tok _) h) fun us s2 ⟨vs, H2, I2, r, q2⟩ => ⟨I2.kIn, run_fn F hr hb hd hx I2 r q2⟩) hst hpl
end
end DL
namespace DL
open PySem PySem.Spec PySem.Calls PyProof.Rows L2
open PySem.W (Frag InstAt Looks KitX findIn subIn hasDictIn typeIn specialIn takesIn mroIn keepIn findObj)

/-! ### making an exception of ours -/
def spW (K : Frag) (a C : Addr) (w : Str) (H : Hp) (Q : VK) : Prop := OexC K C ∧ findIn K (.ref C) "word" = some none ∧ H a = some (exo a C none) ∧ ∀ dx, H dx = none → dx ≠ a → Q .non (upd (upd H dx (exd dx [("word", .str w)])) a (exo a C (some dx)))
def spR (K : Frag) : Sp := fun vs H Q _ => ∃ a C w, vs = [.ref a, .str w] ∧ spW K a C w H Q
def spC (K : Frag) (w : Str) : Sp := fun vs H Q _ => ∃ a C, vs = [.ref a] ∧ spW K a C w H Q
section
variable {P : Program} {w : World} {K : Frag} {mg : Str → Option Value} {base : Heap} {CX : CXT} {nm qual z : Str} {params : Arguments} {scope : Scope} {f fR : Addr} {fd fdR : FuncData} {q1 q2 q3 q4 q5 q6 : Pos} {CR : Addr} {j : Option Str}
theorem okR (F : FunD K nm qual params [.Assign [.Attribute (.Name "self" q1) "word" q2] (.Name "word" q3) q4] scope [] [] f fd) (S : FnScope ["self", "word"] ["self", "word"] scope) (v0 : Vis scope "self") (v1 : Vis scope "word") : FnOk P w K mg base CX 1 f fd ["self", "word"] (spR K) := by
  refine F.ok S (fun vs H Q E ⟨a, C, w, e, _⟩ => by rw [e]; rfl) (fun cdv A outer s H vs Q E hr ⟨a, C, z, e, T, no, ha, h⟩ => ⟨_, pss_one (ps_ost (pv 0 rfl v0) (pv 1 rfl v1)), ?_⟩)
  subst e
  exact ⟨_, rfl, _, rfl, a, C, rfl, T, no, .inl ⟨ha, fun dx h1 h2 => h dx h1 h2⟩⟩
theorem okC {body : List Stmt} (F : FunD K nm qual params body scope [] [] f fd) (S : FnScope ["self"] ["self"] scope)
    (hb : ∀ (cdv : Value) (A : Around) (outer : List Env) (s : Shared) (H : Hp) (E : XK), Room 1 (A.deeper (envOfC qual scope s.heap.objs.size f cdv)) → PSs (cxOf (L2.CX P w) P w K mg base ["self"] qual scope f cdv A outer s H E) body (tDrop (tCall (spR K) [] E0 (tCons (tVar 0) (tCons (tC (.str z)) tNil))))) :
    FnOk P w K mg base (L2.CX P w) 2 f fd ["self"] (spC K z) := by
  refine F.ok S (fun vs H Q E ⟨a, C, e, _⟩ => by rw [e]; rfl) (fun cdv A outer s H vs Q E hr ⟨a, C, e, T, no, ha, h⟩ => ⟨_, hb cdv A outer s H E hr, ?_⟩)
  subst e
  exact ⟨_, rfl, a, C, z, rfl, T, no, ha, h⟩
end
/-- C(), C's own __init__ a def of self alone -/
theorem exo_same {H : Hp} {a d C : Addr} {fs : List (Str × V)} (ha : H a = none) (hd : H d = none) (ne : d ≠ a) : Same H (upd (del (upd (upd (upd H a (exo a C none)) d (exd d fs)) a (exo a C (some d))) a) d (.xd fs)) := fun b u h => by
  have n1 : b ≠ a := ne_of_none h ha
  have n2 : b ≠ d := ne_of_none h hd
  rw [upd_ne n2, del_ne n1, upd_ne n1, upd_ne n2, upd_ne n1]; exact h
section
variable {X : Cx} {k : Nat} {C fI : Addr} {fd : FuncData} {x w : Str} {p pos pos2 : Pos} {Wx : WX}
theorem pmk0 (T : OexC X.K C) (no : findIn X.K (.ref C) "word" = some none) (iC : findIn X.K (.ref C) "__init__" = some (some (.ref fI))) (tI : typeIn X.K (.ref fI) = some (.type "function")) (Fn : FnOk X.prog X.w X.K X.mg X.base (L2.CX X.prog X.w) k fI fd ["self"] (spC X.K w)) (hr : Room (k + 1) X.A)
    (hb : Binds X.K fd ["self"] []) (hg : Gl X x) (hm : X.mg x = some (.ref C)) (hdb : (x == ("__debug__" : Str)) = false := by decide) :
    PMk X (.Call (.Name x p) [] [] pos) (fun σ H Q => ∀ a d, H a = none → H d = none → d ≠ a → Q (.ref C) (some d) (upd (del (upd (upd (upd H a (exo a C none)) d (exd d [("word", .str w)])) a (exo a C (some d))) a) d (.xd [("word", .str w)]))) := by
  intro pins s σ H Q I h
  obtain ⟨nm, q, N, bs, bm, sn, sub, ab, col, dd, k0, k1, k2, k3, k5, hC, hbm⟩ := T.cls
  refine wpAny_Call_Name_kw (ld_glob I hg hm ?_ hdb)
  refine PySem.W.callWith_K0 I.kIn T.kC ?_
  show wpAny _ _ (call (.ref C) []) _ _ _
  obtain ⟨hp, g, dr, tk, os⟩ := s
  have h1 : hp.objs.size ≤ hp.objs.size + 1 := Nat.le_succ _
  have hn : H (hp.objs.size + 1) = none := I.hok.fresh h1
  have old : ∀ b o, hp.get? b = some o → ((hp.push (PySem.W.kdv_tup [])).push (PySem.HandSPX.excO C hp.objs.size)).get? b = some o := fun b o e => Heap.get?_push_of_some _ (Heap.get?_push_of_some _ e)
  have new : ((hp.push (PySem.W.kdv_tup [])).push (PySem.HandSPX.excO C hp.objs.size)).get? (hp.objs.size + 1) = some (PySem.HandSPX.excO C hp.objs.size) := by heap_get
  have J : Inv X pins σ (upd H (hp.objs.size + 1) (exo (hp.objs.size + 1) C none)) ⟨(hp.push (PySem.W.kdv_tup [])).push (PySem.HandSPX.excO C hp.objs.size), g, dr, tk, os⟩ :=
    I.laid (t' := tk) (a := hp.objs.size + 1) (o := exo (hp.objs.size + 1) C none) (h' := (hp.push (PySem.W.kdv_tup [])).push (PySem.HandSPX.excO C hp.objs.size)) old h1 (exo_ok new)
  have want : spC X.K w [V.ref (hp.objs.size + 1)] (upd H (hp.objs.size + 1) (exo (hp.objs.size + 1) C none)) (fun v H2 => v = .non ∧ ∃ d, H2 = upd (upd (upd H (hp.objs.size + 1) (exo (hp.objs.size + 1) C none)) d (exd d [("word", .str w)])) (hp.objs.size + 1) (exo (hp.objs.size + 1) C (some d)) ∧ H d = none ∧ d ≠ hp.objs.size + 1) (fun _ _ _ => False) :=
    ⟨_, C, rfl, T, no, upd_same, fun dx n1 n2 => ⟨rfl, dx, rfl, by rwa [upd_ne n2] at n1, n2⟩⟩
  refine wpAny_call (PySem.HandSPX.call_own F.excBase_ValueError (fun Y => PySem.HandSPX.refsVE_contains Y bm hbm) (I.kIn _ _ hC) (PySem.W.looks_findIn I.kIn iC) (fun self => PySem.W.bind_fn I.kIn self tI) (by show 0 ≤ sizeLine; decide)
    (codeAny_mono (Fn.run _ X.stack _ _ ⟨[Value.ref (hp.objs.size + 1)], []⟩ [Value.ref (hp.objs.size + 1)] _ _ (fun _ _ _ => False) (hr.make C [] []) (J.env0.make C [] []) (hb _ [Value.ref (hp.objs.size + 1)] J.kIn rfl) (show Vals [V.ref (hp.objs.size + 1)] _ from .cons rfl .nil) want) fun r s' hq => ?_))
  cases r with
  | error er => exact passL pins σ _ _ er s' J hq
  | ok fl => cases fl with
    | ret u =>
      obtain ⟨v, H2, os2, bare2, un2, hok2, rv, ev, d, e2, nd, ne⟩ := hq
      subst ev e2
      obtain ⟨h2, g2, d2, t2, os'⟩ := s'
      refine ⟨rv, mk_end (raises_own T.exC T.tyC) I h1 old un2 hok2 os2 bare2 (d := d) (fs := [("word", .str w)]) upd_same ?_ nd (h _ d hn nd ne)⟩
      rw [upd_ne ne, upd_same]
    | next => exact False.elim hq
    | brk => exact False.elim hq
    | cont => exact False.elim hq
/-- raise C() -/
theorem s_raise0 (hc : X.calm = true) (tk : Takes X Wx) (e : EC X.K X.mg x C fI) (Fn : FnOk X.prog X.w X.K X.mg X.base (L2.CX X.prog X.w) k fI fd ["self"] (spC X.K w)) (hr : Room (k + 1) X.A) (hb : Binds X.K fd ["self"] []) (hg : Gl X x) (hdb : (x == ("__debug__" : Str)) = false := by decide) :
    DS X Wx (.Raise (some (.Call (.Name x p) [] [] pos)) none pos2) (fun _ _ ω => .er ⟨x, w⟩ ω) :=
  ⟨PS.weak (ps_raise hc tk (pmk0 e.ox e.no e.iC e.tI Fn hr hb hg e.mg hdb)) fun G σ H ⟨F, ρ, ω, L, R, h⟩ a d ha hd ne =>
    h _ _ ρ σ _ L (R.same (exo_same ha hd ne)) ⟨C, d, e.mg, rfl, rfl, upd_same⟩⟩
end
end DL
namespace DL
open PySem PySem.Spec PySem.Calls PyProof.Rows L2
open PySem.W (Frag InstAt Looks KitX findIn subIn hasDictIn typeIn specialIn takesIn mroIn keepIn findObj)

/-! ### isinstance(e, T), T built in -/
def isiB (T n : String) : Bool := n == T || (T == "int" && n == "bool")
@[simp] def gIs2 (T : String) (x : D) : Res D := match D.tyN x with
  | some n => .ok (.bl (isiB T n))
  | none => .stuck
section
variable {X : Cx} {Wx : WX} {pos p pt : Pos} {a : Expr} {Ba : List Nat} {ma : M} {T : String} {x : Str}
theorem tyN_ok {W : Wd} {H : Hp} {S : Addr → Prop} {ob : Nat → Option Addr} {n : String} : ∀ {d : D} {v : V}, D.tyN d = some n → RepU W H S ob d v → TyX W.K H v (.type n)
  | .non, v, e, h => by cases e; rw [show v = .non from h]; exact .base .non
  | .bl b, v, e, h => by cases e; rw [show v = .bl b from h]; exact .base (.bl _)
  | .int b, v, e, h => by cases e; rw [show v = .int b from h]; exact .base (.int _)
  | .str b, v, e, h => by cases e; rw [show v = .str b from h]; exact .base (.str _)
  | .lst b, v, e, ⟨a, vs, e1, h, _⟩ => by cases e; rw [e1]; exact .base (.lst h)
  | .tup b, v, e, ⟨a, vs, e1, h, _⟩ => by cases e; rw [e1]; exact .base (.tup h)
  | .ctup _, _, e, _ => nomatch e
  | .dK _, _, e, _ => nomatch e
  | .dT _, _, e, _ => nomatch e
  | .ins _ _, _, e, _ => nomatch e
  | .obj _, _, e, _ => nomatch e
theorem tyN_mem : ∀ {d : D} {n : String}, D.tyN d = some n → n ∈ ["NoneType", "bool", "int", "str", "list", "tuple"]
  | .non, _, e | .bl b, _, e | .int b, _, e | .str b, _, e | .lst b, _, e | .tup b, _, e => by cases e; decide
  | .ctup _, _, e => nomatch e
  | .dK _, _, e => nomatch e
  | .dT _, _, e => nomatch e
  | .ins _ _, _, e => nomatch e
  | .obj _, _, e => nomatch e
theorem d_isi (T : String) (hg : Gl X "isinstance") (hm : X.mg "isinstance" = none) (hgt : Gl X x) (hmt : X.mg x = none) (ha : DU X Wx Ba a ma) (hv : bootBuiltins x = some (.type T) := by decide +kernel) (hk : ∀ n ∈ ["NoneType", "bool", "int", "str", "list", "tuple"], kitB n T = some (isiB T n) := by decide +kernel)
    (hn : x ≠ "__name__" := by decide) (hdb : (x == ("__debug__" : Str)) = false := by decide)
    (he : starEach [a, .Name x pt] X.env = (false, eval a X.env) :: starEach [.Name x pt] X.env := by rfl) (he2 : starEach [.Name x pt] X.env = (false, eval (.Name x pt) X.env) :: starEach [] X.env := by rfl) (hpl : (backTo pos (starEach [.Name x pt] X.env)).any (·.1) = false := by rfl) :
    DP X Wx Ba (.Call (.Name "isinstance" p) [a, .Name x pt] [] pos) (m1 ma (gIs2 T)) :=
  ⟨PE.weak (pe_callB call_isi hg hm (by decide +kernel) (pa_cons ha.pe (pa_cons (pe_bltn (v := .ty T) hgt hmt hv rfl hn hdb) pa_nil he2) he) (by decide) (by decide) he hpl) fun σ H Q ⟨F, ρ, ω, L, R, h⟩ => part1 (k := gIs2 T) subid R h fun v H1 d s R1 q l => by
    unfold gIs2 at l
    cases e : D.tyN d with
    | none => rw [e] at l; exact l.elim
    | some n =>
      rw [e] at l
      exact ⟨v, .ty T, .type n, .type T, isiB T n, rfl, .ty T, tyN_ok e q, kit_ty (hk n (tyN_mem e)), l.ret rfl⟩⟩
end

/-! ### what an except suite says of its exception -/
theorem Exc.same {W : Wd} {H H' : Hp} {e : Er} {cls : Value} {d : Option Addr} (x : Exc W H e cls d) (s : Same H H') : Exc W H' e cls d := by
  obtain ⟨C, d, e1, e2, e3, e4⟩ := x.at_
  exact ⟨C, d, e1, e2, e3, s _ _ e4⟩
structure DE (X : Cx) (i : Nat) (e : Expr) (g : Er → Option D) : Prop where
  ex : ∃ te : Addr → Value → Option Addr → TE, (∀ a oe cls d pn, Zc cls d oe → (∃ vs, oe.data = .fields vs) → PE (X.suite a ((a, oe) :: pn)) e (te a cls d)) ∧
    ∀ a cls d er σ H Q dd, g er = some dd → σ[i]? = some (some (.ref a)) → Exc (wd X) H er cls d → (∀ v H', Same H H' → (∀ S ob, Rep (wd X) H' S ob dd v) → Q v H') → te a cls d σ H Q
structure DEs (X : Cx) (i : Nat) (es : List Expr) (g : Er → Option (List D)) : Prop where
  ex : ∃ te : Addr → Value → Option Addr → TA, (∀ a oe cls d pn, Zc cls d oe → (∃ vs, oe.data = .fields vs) → PA (X.suite a ((a, oe) :: pn)) es (te a cls d)) ∧
    ∀ a cls d er σ H Q dd, g er = some dd → σ[i]? = some (some (.ref a)) → Exc (wd X) H er cls d → (∀ v H', Same H H' → (∀ S ob, Reps (wd X) H' S ob dd v) → Q v H') → te a cls d σ H Q
section
variable {X : Cx} {Wx : WX} {i : Nat} {x y : Str} {pos p pt np pos' rp : Pos} {e : Expr} {es : List Expr} {g : Er → Option D} {gs : Er → Option (List D)}
theorem e_const {d : D} {v : V} (h : ∀ a oe pn, PE (X.suite a ((a, oe) :: pn)) e (tC v)) (r : ∀ H S ob, Rep (wd X) H S ob d v) : DE X i e (fun _ => some d) :=
  ⟨fun _ _ _ => tC v, fun a oe cls d' pn _ _ => h a oe pn, fun a cls d' er σ H Q dd eg _ _ h => by cases eg; exact h v H (Same.refl H) (fun S ob => r H S ob)⟩
theorem e_bl {b j} : DE X i (.Constant (.bool b) j pos) (fun _ => some (.bl b)) := e_const (fun _ _ _ => pe_bl) fun _ _ _ => rfl
theorem e_str {b j} : DE X i (.Constant (.str b) j pos) (fun _ => some (.str b)) := e_const (fun _ _ _ => pe_str) fun _ _ _ => rfl
theorem e_word (cs : List Str) (hN : X.N[i]? = some x) (hv : Vis X.env.scope x) (T : ∀ c ∈ cs, ∀ C, X.mg c = some (.ref C) → XfC X.K C ∧ findIn X.K (.ref C) "word" = some none) (hd : (x == ("__debug__" : Str)) = false := by decide) (hcd : (x == ("__classdict__" : Str)) = false := by decide)
    (hb : attributeBase (.Name x p) "word" X.env (eval (.Name x p) X.env) = eval (.Name x p) X.env := by rfl) : DE X i (.Attribute (.Name x p) "word" pos) (fun er => if er.cls ∈ cs then some (.str er.word) else none) := by
  refine ⟨fun a cls d σ H Q => ∃ C, (XfC X.K C ∧ findIn X.K (.ref C) "word" = some none) ∧ tXf a cls d C "word" (tVar i) σ H Q, fun a oe cls d pn hz hf => ⟨fun pins s σ H Q I ⟨C, t, q⟩ => (pe_xf t.1 t.2 hz hf (pe_var hN hv hd hcd) hb).run pins s σ H Q I q⟩, fun a cls d er σ H Q dd eg hs x h => ?_⟩
  split at eg
  · rename_i hm
    cases eg
    obtain ⟨C, d, e1, e2, e3, e4⟩ := x.at_
    exact ⟨C, T _ hm C e1, _, hs, rfl, e2, d, _, _, e3, e4, rfl, h _ H (Same.refl H) fun _ _ => rfl⟩
  · cases eg
theorem call_isX {a : Addr} {oe : Obj} {cls : Value} {d : Option Addr} {pn : List (Addr × Obj)} (hz : Zc cls d oe) (hf : ∃ vs, oe.data = .fields vs) : CallR (X.suite a ((a, oe) :: pn)) (.builtin "isinstance") (fun xs H Q => ∃ (D dd : Addr) (fs : List (Str × V)) (c : V) (cv : Value) (b : Bool), cls = .ref D ∧ d = some dd ∧ H dd = some (.xd fs) ∧ ExcC X.K D ∧ xs = [.ref a, c] ∧ (∀ u, RelV c u → u = cv) ∧ PySem.W.kitOne X.K (.ref D) cv = some b ∧ Q (.bl b) H) := by
  intro pins s σ H xs us Q I r h
  obtain ⟨D, dd, fs, c, cv, b, rfl, rfl, ed, xc, rfl, hcv, k, q⟩ := h
  cases r with
  | cons rx rr => cases rr with
    | cons rt rn =>
      cases rn
      cases rx
      have ec := hcv _ rt
      subst ec
      obtain ⟨here, _⟩ := I.pin (a, oe) (List.mem_append_left _ List.mem_cons_self)
      obtain ⟨vs, hv⟩ := hf
      have od : ObjOk X.prog X.w H s.heap dd (.xd fs) := I.hok dd _ ed
      obtain ⟨mA, hns, _⟩ := od
      obtain ⟨o1, ho, _⟩ := lookIn_ns hns
      have J : InstAt s.heap a oe D (some o1) := ⟨here, hz.1, by unfold PySem.W.notCls; rw [hv] <;> rfl, by rw [hz.2]; exact ho⟩
      exact PySem.W.kia_one (exd_kit xc) I.kIn J k (fun z => nomatch z) fun tk => ⟨.bl b, H, I.kept (t' := tk) fun _ _ z => z, rfl, q⟩
theorem e_isi (cs : List Str) (sb : Str → Bool) {v : V} {cv : Value} (hg : Gl X "isinstance") (hm : X.mg "isinstance" = none) (hN : X.N[i]? = some x) (hv : Vis X.env.scope x) (hc : ∀ a oe pn, PE (X.suite a ((a, oe) :: pn)) e (tC v)) (hcv : ∀ u, RelV v u → u = cv)
    (T : ∀ c ∈ cs, ∀ C, X.mg c = some (.ref C) → ExcC X.K C ∧ PySem.W.kitOne X.K (.ref C) cv = some (sb c)) (hd : (x == ("__debug__" : Str)) = false := by decide) (hcd : (x == ("__classdict__" : Str)) = false := by decide)
    (he : starEach [.Name x pt, e] X.env = (false, eval (.Name x pt) X.env) :: starEach [e] X.env := by rfl) (he2 : starEach [e] X.env = (false, eval e X.env) :: starEach [] X.env := by rfl) (hpl : (backTo pos (starEach [e] X.env)).any (·.1) = false := by rfl) :
    DE X i (.Call (.Name "isinstance" p) [.Name x pt, e] [] pos) (fun er => if er.cls ∈ cs then some (.bl (sb er.cls)) else none) := by
  refine ⟨_, fun a oe cls d pn hz hf => pe_callB (X := X.suite a ((a, oe) :: pn)) (call_isX hz hf) hg hm (by decide +kernel) (pa_cons (pe_var (X := X.suite a ((a, oe) :: pn)) hN hv hd hcd) (pa_cons (hc a oe pn) pa_nil he2) he) (by decide) (by decide) he hpl, fun a cls d er σ H Q dd eg hs xx h => ?_⟩
  split at eg
  · rename_i hmm
    cases eg
    obtain ⟨C, d, e1, e2, e3, e4⟩ := xx.at_
    obtain ⟨t1, t2⟩ := T _ hmm C e1
    exact ⟨_, hs, C, d, _, v, cv, _, e2, e3, e4, t1, rfl, hcv, t2, h _ H (Same.refl H) fun _ _ => rfl⟩
  · cases eg
theorem es_nil : DEs X i [] (fun _ => some []) := ⟨fun _ _ _ => tNil, fun a oe cls d pn _ _ => pa_nil, fun a cls d er σ H Q dd eg _ _ h => by cases eg; exact h [] H (Same.refl H) (fun _ _ => rfl)⟩
theorem es_cons (h : DE X i e g) (t : DEs X i es gs) (he : starEach (e :: es) X.env = (false, eval e X.env) :: starEach es X.env := by rfl) : DEs X i (e :: es) (fun er => (g er).bind fun d => (gs er).map fun ds => d :: ds) := by
  obtain ⟨te, h1, h2⟩ := h.ex
  obtain ⟨ta, t1, t2⟩ := t.ex
  refine ⟨fun a cls d => tCons (te a cls d) (ta a cls d), fun a oe cls d pn hz hf => pa_cons (h1 a oe cls d pn hz hf) (t1 a oe cls d pn hz hf) he, fun a cls d er σ H Q dd eg hs xx q => ?_⟩
  cases e1 : g er with
  | none => rw [e1] at eg; cases eg
  | some d1 =>
    rw [e1] at eg
    cases e2 : gs er with
    | none => rw [e2] at eg; cases eg
    | some d2 =>
      rw [e2] at eg
      cases eg
      refine h2 a cls d er σ H _ d1 e1 hs xx fun v H1 s1 r1 => ?_
      exact t2 a cls d er σ H1 _ d2 e2 hs (xx.same s1) fun vs H2 s2 r2 => q _ H2 (s1.trans s2) fun S ob => ⟨v, vs, rfl, Rep.same (r1 S ob) s2, r2 S ob⟩
theorem e_tup {k} (t : DEs X i es gs) : DE X i (.Tuple es k pos) (fun er => (gs er).bind fun ds => if ds.length ≤ 100 then some (.tup ds) else none) := by
  obtain ⟨ta, t1, t2⟩ := t.ex
  refine ⟨fun a cls d => tTup (ta a cls d), fun a oe cls d pn hz hf => pe_tup (t1 a oe cls d pn hz hf), fun a cls d er σ H Q dd eg hs xx q => ?_⟩
  cases e2 : gs er with
  | none => rw [e2] at eg; cases eg
  | some ds =>
    rw [e2] at eg
    replace eg : (if ds.length ≤ 100 then some (D.tup ds) else none) = some dd := eg
    split at eg
    · rename_i hl
      cases eg
      refine t2 a cls d er σ H _ ds e2 hs xx fun vs H2 s2 r2 => ⟨by rw [(r2 (fun _ => False) (fun _ => none)).len, sizeLine_eq]; omega, fun z hz => ?_⟩
      have sm := same_upd (o := .tup vs) hz
      exact q _ _ (s2.trans sm) fun S ob => ⟨z, vs, rfl, upd_same, Reps.same (r2 S ob) sm⟩
    · cases eg

/-! ### try: .. except C as n: return e -/
@[simp] def sTry (cs : List Str) (hit : Str → Bool) (mb : T) (g : Er → Option D) : T := fun n0 ρ ω => match mb n0 ρ ω with
  | .er e ω' => if e.cls ∈ cs then (if hit e.cls = true then (match g e with
    | some d => .rt d ω'
    | none => .stuck) else .er e ω') else .stuck
  | r => r
theorem s_try {c : Value} {n : Str} {body : List Stmt} {mb : T} (cs : List Str) (hit : Str → Bool) (hN : X.N.Nodup) (hi : X.N[i]? = some n) (hln : X.env.kindOf n = some .local) (hc : Names X x c) (tk : Takes X Wx) (T : ∀ k ∈ cs, ∀ C, X.mg k = some (.ref C) → PySem.W.exmOne X.K (.ref C) c = some (hit k))
    (hb : ∀ (W : WX) (pn : List (Addr × Obj)) (xe : Value → Shared → Prop), Takes (X.tr pn xe) W → PassesOwn (model X.prog X.w) X.A X.env xe → DSs (X.tr pn xe) W body mb) (he : DE X i e g) (hs : X.stack = X.env :: X.outer := by rfl) (hf : X.env.frame = some X.env.locals := by rfl) :
    DS X Wx (.Try body [.ExceptHandler (some (.Name x np)) (some n) [.Return (some e) rp] pos'] [] [] pos) (sTry cs hit mb g) := by
  obtain ⟨te, h1, h2⟩ := he.ex
  refine ⟨PS.weak (ps_try_as (tb := fun W => tS (wd X) W mb) (ts := fun a cls d D σ H => σ.length = X.N.length → tRet (te a cls d) D σ H) hs hf hN hi hln hc tk (fun W pn xe tk' hp => (hb W pn xe tk' hp).pss) fun a oe cls d pn hz hff => ⟨fun pins s σ H D I q => (pss_one (ps_ret (h1 a oe cls d pn hz hff))).run pins s σ H D I (q I.len)⟩) fun G σ H ⟨F, ρ, ω, L, R, h⟩ => ⟨F, ρ, ω, L, R, ?_⟩⟩
  unfold sTry at h
  cases zb : mb F.n0 ρ ω with
  | stuck => rw [zb] at h; exact h
  | nx ρ' ω' => rw [zb] at h; exact h
  | rt d ω' => rw [zb] at h; exact h
  | bk ρ' ω' => rw [zb] at h; exact h
  | ct ρ' ω' => rw [zb] at h; exact h
  | er er ω' =>
    rw [zb] at h
    intro cls dd ρ' σ' H' L' R' xx
    replace h : LeafS (wd X) Wx F G (if er.cls ∈ cs then (if hit er.cls = true then (match g er with
      | some d => .rt d ω'
      | none => .stuck) else .er er ω') else .stuck) := h
    split at h
    · rename_i hm
      obtain ⟨C, d, e1, e2, e3, e4⟩ := xx.at_
      refine ⟨hit er.cls, by rw [e2]; exact T _ hm C e1, fun hb a ha hlen => ?_, fun hb => ?_⟩
      · rw [if_pos hb] at h
        cases zg : g er with
        | none => rw [zg] at h; exact h.elim
        | some d2 =>
          rw [zg] at h
          refine h2 a cls dd er _ H' _ d2 zg ?_ xx fun v H2 s2 r => h v ρ' σ' H2 L' (R'.same s2) (r _ _)
          have hl : i < X.N.length := (List.getElem?_eq_some_iff.mp hi).1
          rw [List.getElem?_set_self (by rw [List.length_set] at hlen; omega)]
      · rw [if_neg (by rw [hb]; exact Bool.false_ne_true)] at h
        exact h cls dd ρ' σ' H' L' R' xx
    · exact h.elim
end
end DL
namespace DL
open PySem PySem.Spec PySem.Calls PyProof.Rows L2
open PySem.W (Frag findIn subIn typeIn keepIn)

/-! ### what is known of a def, of an exception's class -/
structure Fc (P : Program) (w : World) (K : Frag) (mg : Str → Option Value) (base : Heap) (k : Nat) (x : Str) (n : Nat) (g : Fu) : Prop where
  ex : ∃ f fd ps, mg x = some (.ref f) ∧ keepIn K (.ref f) = true ∧ Binds K fd ps [] ∧ ps.length = n ∧ FnOk P w K mg base (L2.CX P w) k f fd ps (spF ⟨K, mg⟩ n g)
structure Xc (P : Program) (w : World) (K : Frag) (mg : Str → Option Value) (base : Heap) (x z : Str) : Prop where
  ex : ∃ C fI fd, EC K mg x C fI ∧ Binds K fd ["self"] [] ∧ FnOk P w K mg base (L2.CX P w) 2 fI fd ["self"] (spC K z)
section
variable {X : Cx} {Wx : WX} {pos p pos2 : Pos} {e : Expr} {es : List Expr} {B : List Nat} {mr : MA} {x z : Str} {j k n : Nat} {g : Fu}
theorem d_callF (c : Fc X.prog X.w X.K X.mg X.base j x n g) (hr : Room k X.A) (tk : Takes X Wx) (ha : DA X Wx B (e :: es) mr) (hg : Gl X x := by rfl) (hj : j ≤ k := by decide) (hdb : (x == ("__debug__" : Str)) = false := by decide)
    (he : starEach (e :: es) X.env = (false, eval e X.env) :: starEach es X.env := by rfl) (hpl : (backTo pos (starEach es X.env)).any (·.1) = false := by rfl) : DP X Wx B (.Call (.Name x p) (e :: es) [] pos) (mCall n g mr) := by
  obtain ⟨f, fd, ps, h1, h2, h3, rfl, h5⟩ := c.ex
  exact d_call (h5.mono hj) hr hg h1 h2 h3 tk ha hdb he hpl
theorem s_raiseC (hc : X.calm = true) (tk : Takes X Wx) (c : Xc X.prog X.w X.K X.mg X.base x z) (hr : Room k X.A) (hg : Gl X x := by rfl) (hk : 3 ≤ k := by decide) (hdb : (x == ("__debug__" : Str)) = false := by decide) :
    DS X Wx (.Raise (some (.Call (.Name x p) [] [] pos)) none pos2) (fun _ _ ω => .er ⟨x, z⟩ ω) := by
  obtain ⟨C, fI, fd, h1, h2, h3⟩ := c.ex
  exact s_raise0 hc tk h1 h3 (hr.mono hk) h2 hg hdb
end
section
variable {P : Program} {w : World} {K : Frag} {mg : Str → Option Value} {base : Heap} {x z qual : Str} {params : Arguments} {body : List Stmt} {scope : Scope} {f : Addr} {fd : FuncData} {N ps : List Str} {k n : Nat} {g : T} {fu : Fu}
theorem fc_ok (F : FunD K x qual params body scope [] [] f fd) (S : FnScope N ps scope) (hm : mg x = some (.ref f)) (hb : Binds K fd ps []) (hn : ps.length = n)
    (hbody : ∀ (cdv : Value) (A : Around) (outer : List Env) (s : Shared) (H : Hp) (E : XK), Room k (A.deeper (envOfC qual scope s.heap.objs.size f cdv)) → DSs (cxOf (L2.CX P w) P w K mg base N qual scope f cdv A outer s H E) (fun cls d _ H => E cls d H) body g) :
    Fc P w K mg base (k + 1) x n (fuOf N.length g) := by
  subst hn
  exact ⟨f, fd, ps, hm, F.kp, hb, rfl, fn_ok F S hbody⟩
theorem fc_stuck (c : Fc P w K mg base k x n fu) {j : Nat} : Fc P w K mg base j x n (fun _ _ _ => .stuck) := by
  obtain ⟨f, fd, ps, h1, h2, h3, h4, h5⟩ := c.ex
  exact ⟨f, fd, ps, h1, h2, h3, h4, fun vs H Q E ⟨_, _, _, _, _, _, _, _, h⟩ => h.elim, fun A outer s H args us vs Q E _ _ _ _ ⟨_, _, _, _, _, _, _, _, h⟩ => h.elim⟩
end
/-! ### the law's own start -/
def spLaw (K : Frag) : Sp := fun vs H Q _ => ∃ (a : Addr) (ns : List Int), vs = [.ref a] ∧ ns.length ≤ 63 ∧ SqL K H a (ns.map V.int) ∧ ∀ H', Q (.bl true) H'
theorem cut63 {xs : List V} (h : xs.length ≤ 63) : cutV xs none (some 63) = xs := by
  unfold cutV
  rw [HT.sIx_none, show (some (63 : Int)) = some ((63 : Nat) : Int) from rfl, HT.sIx_nat, Nat.min_eq_right h, List.drop_zero, Nat.sub_zero, List.take_length]
section
variable {P : Program} {w : World} {K : Frag} {mg : Str → Option Value} {base : Heap} {x nm qual : Str} {params : Arguments} {scope : Scope} {f : Addr} {fd : FuncData} {N : List Str} {k n : Nat} {g : T} {p1 p2 p3 p4 p5 p6 : Pos} {j : Nat} {rest : List Stmt}
theorem law_first {X : Cx} {t : TS} (hN : X.N.Nodup) (hi : X.N[0]? = some x) (hx : Loc X.env.scope x) (hv : Vis X.env.scope x) (hr : PSs X rest t) (hd : (x == ("__debug__" : Str)) = false := by decide) (hcd : (x == ("__classdict__" : Str)) = false := by decide)
    (hf : X.fn x = true ∨ X.env.scope.names.lookup x = some .local := by first | exact .inl rfl | exact .inr rfl | assumption)
    (hs : swapsWith (.Subscript (.Name x p2) (.Slice none (some (.Constant (.int 63) j p3)) none p4) p5) (some (.Name x p1)) p6.line X.env = pure false := by rfl) :
    PSs X (.Assign [.Name x p1] (.Subscript (.Name x p2) (.Slice none (some (.Constant (.int 63) j p3)) none p4) p5) p6 :: rest)
      (fun G σ H => ∃ (a : Addr) (xs : List V), σ[0]? = some (some (.ref a)) ∧ xs.length ≤ 63 ∧ SqL X.K H a xs ∧ ∀ z, H z = none → t G (σ.set 0 (some (.ref z))) (upd H z (.lst xs))) :=
  PSs.weak (pss_cons (ps_set hN hi hx (pe_slice sl_list (pe_var (i := 0) hi hv hd hcd) po_none (po_some pe_int)) hs hf) hr) fun G σ H ⟨a, xs, h1, h2, h3, h4⟩ => ⟨_, h1, 63, rfl, a, xs, rfl, h3, fun z hz => by rw [cut63 h2]; exact h4 z hz⟩
/-- THE LAW'S DEF: behind its first row the script is a list of its own -/
theorem law_ok (F : FunD K nm qual params (.Assign [.Name x p1] (.Subscript (.Name x p2) (.Slice none (some (.Constant (.int 63) j p3)) none p4) p5) p6 :: rest) scope [] [] f fd) (S : FnScope (x :: N) [x] scope) (hx : Loc scope x) (hv : Vis scope x)
    (hbody : ∀ (cdv : Value) (A : Around) (outer : List Env) (s : Shared) (H : Hp) (E : XK), Room k (A.deeper (envOfC qual scope s.heap.objs.size f cdv)) →
      (swapsWith (.Subscript (.Name x p2) (.Slice none (some (.Constant (.int 63) j p3)) none p4) p5) (some (.Name x p1)) p6.line (envOfC qual scope s.heap.objs.size f cdv) = pure false) ∧ DSs (cxOf (L2.CX P w) P w K mg base (x :: N) qual scope f cdv A outer s H E) (fun cls d _ H => E cls d H) rest g)
    (hg : ∀ ns : List Int, ns.length ≤ 63 → ∃ ω, toRR (g 0 (.own (.lst (ns.map .int)) :: List.replicate N.length .no) []) = .ok (.bl true) ω) (hd : (x == ("__debug__" : Str)) = false := by decide) (hcd : (x == ("__classdict__" : Str)) = false := by decide) :
    FnOk P w K mg base (L2.CX P w) (k + 1) f fd [x] (spLaw K) := by
  refine F.ok S (fun vs H Q E ⟨a, ns, e, _⟩ => by rw [e]; rfl) (fun cdv A outer s H vs Q E hr ⟨a, ns, e, hl, hS, hQ⟩ => ⟨_, law_first (X := cxOf (L2.CX P w) P w K mg base (x :: N) qual scope f cdv A outer s H E) S.nd rfl hx hv (hbody cdv A outer s H E hr).2.pss hd hcd (.inl rfl) (hbody cdv A outer s H E hr).1, ?_⟩)
  subst e
  refine ⟨a, ns.map V.int, rfl, by rw [List.length_map]; exact hl, hS, fun z hz => ?_⟩
  -- nothing is anybody's yet
  have R0 : Rel (wd (cxOf (L2.CX P w) P w K mg base (x :: N) qual scope f cdv A outer s H E)) ⟨0, fun _ => none, H⟩ (.no :: List.replicate N.length .no) [] (fun _ => none) (L2.start (x :: N) [.ref a]) H :=
    ⟨fun p q a e => (nomatch e), fun p a e => (nomatch e), Aft.refl, fun a b e => (nomatch e), by simp [L2.start], fun i s e => by
      have : s = .no := by
        cases i with
        | zero => exact (Option.some.inj e).symm
        | succ i =>
          rw [List.getElem?_cons_succ, List.getElem?_replicate] at e
          split at e
          · exact (Option.some.inj e).symm
          · cases e
      rw [this]; trivial, fun n o e => (nomatch e), fun n _ => ⟨rfl, fun _ => rfl⟩⟩
  obtain ⟨L1, R1⟩ := R0.storeO (B := []) (i := 0) (d := .lst (ns.map .int)) (same_upd hz) (by simp) hz ⟨ns.map V.int, upd_same, Reps.ofInts ns⟩
  have fr : D.inFree (.lst (ns.map .int)) = true := by
    show D.frees (ns.map .int) = true
    clear hS hQ R1 hl
    induction ns with
    | nil => rfl
    | cons n ns ih => show (D.free (.int n) && D.frees (ns.map .int)) = true; rw [ih]; rfl
  unfold demO at R1
  rw [if_pos fr] at R1
  obtain ⟨ω, hg⟩ := hg ns hl
  refine ⟨_, _, _, _, R1, ?_⟩
  show LeafS _ _ _ _ (g 0 (.own (.lst (ns.map .int)) :: List.replicate N.length .no) [])
  cases zg : g 0 (.own (.lst (ns.map .int)) :: List.replicate N.length .no) [] with
  | rt d ω' =>
    rw [zg] at hg
    have e : d = .bl true := by
      have := hg
      injection this
    subst e
    intro v ρ' σ' H' L' R' r
    rw [show v = .bl true from r]
    exact hQ H'
  | nx ρ' ω' => rw [zg] at hg; cases hg
  | er e ω' => rw [zg] at hg; cases hg
  | bk ρ' ω' => rw [zg] at hg; cases hg
  | ct ρ' ω' => rw [zg] at hg; cases hg
  | stuck => rw [zg] at hg; cases hg
end
theorem no_exc {P : Program} {w : World} (H : Hp) (s : Shared) (e : Value) (s' : Shared) : L2.CX P w [] H s (fun _ _ _ => False) e s' → False := fun h => by
  obtain ⟨_, _, _, _, _, _, _, _, _, _, _, _, z⟩ := h
  exact z
end DL
namespace DL
open PySem PySem.Spec PySem.Calls PyProof.Rows L2

/-! ### x in range(n) -/
section
variable {X : Cx} {Wx : WX} {pos p p2 : Pos} {a b : Expr} {Ba Bb : List Nat} {ma mb : M}
theorem call_rng1 : CallR X (.type "range") (fun xs H Q => ∃ j : Int, xs = [.int j] ∧ ∀ z, H z = none → Q (.ref z) (upd H z (.rng 0 j))) := by
  intro pins s σ H xs us Q I r h
  obtain ⟨j, rfl, q⟩ := h
  cases r with
  | cons rj rn =>
    cases rn
    obtain ⟨u, rfl⟩ := rj
    refine call_range_1 ⟨.ref s.heap.objs.size, upd H s.heap.objs.size (.rng 0 j), I.laid (t' := _) (fun b o e => Heap.get?_push_of_some _ e) (Nat.le_refl _) ?_, rfl, q _ (I.hok.fresh (Nat.le_refl _))⟩
    exact ⟨_, _, _, Heap.get?_push_size _ rfl⟩
@[simp] def gInR (x y : D) : Res D := match x, y with
  | .int i, .int j => .ok (.bl (decide (0 ≤ i ∧ i < j)))
  | _, _ => .stuck
theorem d_inR (hg : Gl X "range") (hm : X.mg "range" = none) (ha : DU X Wx Ba a ma) (hb : DU X Wx Bb b mb) (he : starEach [b] X.env = (false, eval b X.env) :: starEach [] X.env := by rfl) (hpl : (backTo p2 (starEach [] X.env)).any (·.1) = false := by rfl) : DP X Wx (Ba ++ Bb) (.Compare a [.In] [.Call (.Name "range" p) [b] [] p2] pos) (m2 ma mb gInR) :=
  ⟨PE.weak (pe_cmpR op_in_rng ha.pe (pe_callTy call_rng1 hg hm (by decide +kernel) (pa_cons hb.pe pa_nil he) (by decide) (by decide) he hpl) (by rfl)) fun σ H Q ⟨F, ρ, ω, L, R, h⟩ => by
    refine part1 (B := Ba ++ Bb) (k := fun x => (mb ρ ω).bind fun y => gInR x y) subl R h fun v H1 x s1 R1 r1 l1 => ?_
    refine part1 (B := Ba ++ Bb) (k := fun y => gInR x y) subr R1 l1 fun w H2 y s2 R2 r2 l2 => ?_
    unfold gInR at l2
    split at l2
    · rename_i i j
      refine ⟨j, by rw [show w = .int j from r2], fun z hz => ⟨i, z, 0, j, show v = .int i from r1, rfl, upd_same, l2.ret' (same_upd hz) rfl⟩⟩
    · exact l2.elim⟩
end
theorem fc_stuck0 {P : Program} {w : World} {K : PySem.W.Frag} {mg : Str → Option Value} {base : Heap} {x qual : Str} {params : Arguments} {body : List Stmt} {scope : Scope} {f : Addr} {fd : FuncData} {ps : List Str} {k n : Nat} (F : FunD K x qual params body scope [] [] f fd) (hm : mg x = some (.ref f)) (hb : Binds K fd ps []) (hn : ps.length = n) :
    Fc P w K mg base k x n (fun _ _ _ => .stuck) := ⟨f, fd, ps, hm, F.kp, hb, hn, fun vs H Q E ⟨_, _, _, _, _, _, _, _, h⟩ => h.elim, fun A outer s H args us vs Q E _ _ _ _ ⟨_, _, _, _, _, _, _, _, h⟩ => h.elim⟩
theorem all_at {l : List Bool} {b : Bool} (h : l.all id = true) (i : Nat) (hi : l[i]? = some b) : b = true := List.all_eq_true.mp h b (List.mem_of_getElem? hi)
/-! ### what a body's exceptions are wished -/
theorem tkB {P : Program} {w : World} {K : PySem.W.Frag} {mg : Str → Option Value} {base : Heap} {N : List Str} {qual : Str} {scope : Scope} {f : Addr} {cdv : Value} {A : Around} {outer : List Env} {s : Shared} {H : Hp} {E : XK} :
    Takes (cxOf (L2.CX P w) P w K mg base N qual scope f cdv A outer s H E) (fun cls d _ H => E cls d H) := takes_of rfl rfl rfl rfl
theorem hpB {P : Program} {w : World} {K : PySem.W.Frag} {mg : Str → Option Value} {base : Heap} {N : List Str} {qual : Str} {scope : Scope} {f : Addr} {cdv : Value} {A : Around} {outer : List Env} {s : Shared} {H : Hp} {E : XK} :
    PassesOwn (model (cxOf (L2.CX P w) P w K mg base N qual scope f cdv A outer s H E).prog (cxOf (L2.CX P w) P w K mg base N qual scope f cdv A outer s H E).w) (cxOf (L2.CX P w) P w K mg base N qual scope f cdv A outer s H E).A (cxOf (L2.CX P w) P w K mg base N qual scope f cdv A outer s H E).env (cxOf (L2.CX P w) P w K mg base N qual scope f cdv A outer s H E).xe := passes_of rfl
/-! ### what is looked at behind the top: names' facts, defs, tables, more, and the interpreter's statics -/
abbrev AlZ : Type := He.AlT × Bool
def fragZ (n : Nat) (g : Addr → Option Obj) : PySem.W.Frag := He.frG g (He.asD g n ++ [cStatics])
def obsZ (n : Nat) (fa : List He.Fa) (fn : List He.DefD) (ts : List He.Tab) (ex : PySem.W.Frag → Bool) (g : Addr → Option Obj) : AlZ := (He.obsT fa fn ts (fragZ n g), ex (fragZ n g))
structure SaysZ (fa : List He.Fa) (fn : List He.DefD) (ts : List He.Tab) (ex : PySem.W.Frag → Bool) (w : World) (K : PySem.W.Frag) : Prop where
  t : He.SaysT fa fn ts w K
  more : ex K = true
def hookZ (n : Nat) (fa : List He.Fa) (fn : List He.DefD) (ts : List He.Tab) (ex : PySem.W.Frag → Bool) : PySem.W.Hook where
  α := AlZ
  obs := fun s => obsZ n fa fn ts ex s.heap.get?
  val := fun w => (He.valT fn ts w, true)
  says := fun w h => ∃ K : PySem.W.Frag, K.In h ∧ SaysZ fa fn ts ex w K
  of := fun _ _ e => ⟨_, He.frG_in, ⟨congrArg (fun z : AlZ => z.1) e, congrArg (fun z : AlZ => z.2) e⟩⟩
  keeps := fun _ _ _ ⟨K, hK, c⟩ k => ⟨K, PySem.W.Frag.In.keeps hK k, ⟨c.t, c.more⟩⟩
theorem obsZ_eq {n : Nat} {fa : List He.Fa} {fn : List He.DefD} {ts : List He.Tab} {ex : PySem.W.Frag → Bool} {g : Addr → Option Obj} {s : Shared} (h : ∀ a, g a = s.heap.get? a) : obsZ n fa fn ts ex g = (hookZ n fa fn ts ex).obs s := by
  rw [show g = s.heap.get? from funext h] <;> rfl
/-- the law's def lets nothing out -/
theorem law_calm {P : Program} {w : World} {K : PySem.W.Frag} {mg : Str → Option Value} {base : Heap} {k : Nat} {f : Addr} {fd : FuncData} {ps : List Str} (F : FnOk P w K mg base (L2.CX P w) k f fd ps (spLaw K)) : FnOk P w K mg base CX0 k f fd ps (spLaw K) :=
  ⟨F.len, fun A outer s H args us vs Q E hr he hb hv hs => codeAny_mono (F.run A outer s H args us vs Q E0 hr he hb hv hs) fun r s' h => by
    cases r with
    | ok fl => cases fl <;> exact h
    | error e =>
      obtain ⟨_, _, _, _, _, _, _, _, _, _, _, _, z⟩ := (show L2.CX P w outer H s E0 e s' from h)
      exact z⟩
end DL
namespace DL
open PySem PySem.Spec PyProof.Rows L2
/-! ### the mirrors, reckoned -/
@[simp] theorem Res.bind_ok {α β : Type} (a : α) (f : α → Res β) : (Res.ok a).bind f = f a := rfl
@[simp] theorem Res.bind_stuck {α β : Type} (f : α → Res β) : (Res.stuck : Res α).bind f = .stuck := rfl
@[simp] theorem Res.bind_err {α β : Type} (e : Er) (f : α → Res β) : (Res.err e : Res α).bind f = .err e := rfl
@[simp] theorem gAdd_int (i j : Int) : gAdd (.int i) (.int j) = .ok (.int (i + j)) := rfl
@[simp] theorem gMul_r (i j : Int) (h : -18446744073709551616 < j ∧ j < 18446744073709551616) : gMul (.int i) (.int j) = .ok (.int (i * j)) := @if_pos _ (Classical.propDecidable _) (.inr h) _ _ _
@[simp] theorem gMul_l (i j : Int) (h : -18446744073709551616 < i ∧ i < 18446744073709551616) : gMul (.int i) (.int j) = .ok (.int (i * j)) := @if_pos _ (Classical.propDecidable _) (.inl h) _ _ _
@[simp] theorem gDiv_ok (i j : Int) (h : 0 < j ∧ j < 1073741824) : gDiv (.int i) (.int j) = .ok (.int (i / j)) := @if_pos _ (Classical.propDecidable _) h _ _ _
@[simp] theorem gPow_ok (i j : Int) (h : 0 ≤ j ∧ j ≤ 1000000 ∧ i.natAbs < 18446744073709551616) : gPow (.int i) (.int j) = .ok (.int (i ^ j.toNat)) := @if_pos _ (Classical.propDecidable _) h _ _ _
theorem sq_nx {m1 m2 : T} {n0 : Nat} {ρ ρ' : Env'} {ω ω' : Store} (h : m1 n0 ρ ω = .nx ρ' ω') : sq m1 m2 n0 ρ ω = m2 n0 ρ' ω' := by unfold sq; rw [h]
theorem sq_rt {m1 m2 : T} {n0 : Nat} {ρ : Env'} {d : D} {ω ω' : Store} (h : m1 n0 ρ ω = .rt d ω') : sq m1 m2 n0 ρ ω = .rt d ω' := by unfold sq; rw [h]
theorem sq_er {m1 m2 : T} {n0 : Nat} {ρ : Env'} {d : Er} {ω ω' : Store} (h : m1 n0 ρ ω = .er d ω') : sq m1 m2 n0 ρ ω = .er d ω' := by unfold sq; rw [h]
@[simp] theorem frees_int (ns : List Int) : D.frees (ns.map .int) = true := by
  induction ns with
  | nil => rfl
  | cons n ns ih => simp [ih]
@[simp] theorem gEq_int (i j : Int) : gEq (.int i) (.int j) = .ok (.bl (decide (i = j))) := rfl
@[simp] theorem gNe_int (i j : Int) : gNe (.int i) (.int j) = .ok (.bl (!decide (i = j))) := rfl
@[simp] theorem gEq_bl (i j : Bool) : gEq (.bl i) (.bl j) = .ok (.bl (decide (i = j))) := rfl
@[simp] theorem gNe_bl (i j : Bool) : gNe (.bl i) (.bl j) = .ok (.bl (!decide (i = j))) := rfl
@[simp] theorem gEq_str (i j : Str) : gEq (.str i) (.str j) = .ok (.bl (decide (i = j))) := rfl
theorem atI_nn {α : Type} {xs : List α} {k : Int} (h0 : 0 ≤ k) (h1 : k < xs.length) : atI xs k = xs[k.toNat]? := by
  unfold atI
  have e : ixN xs.length k = some k.toNat := by
    unfold ixN
    rw [if_pos h0, if_pos h1]
  rw [e]; rfl
theorem gIx_lst {xs : List D} {k : Int} {d : D} (h0 : 0 ≤ k) (h : xs[k.toNat]? = some d) : gIx (.lst xs) (.int k) = .ok d := by
  have h1 : k < xs.length := by
    have := (List.getElem?_eq_some_iff.mp h).1
    omega
  show (match dat xs k with | some d => Res.ok d | none => .stuck) = _
  unfold dat
  rw [atI_nn h0 h1, h]
theorem gIx_tup {xs : List D} {k : Int} {d : D} (h0 : 0 ≤ k) (h : xs[k.toNat]? = some d) : gIx (.tup xs) (.int k) = .ok d := by
  have h1 : k < xs.length := by
    have := (List.getElem?_eq_some_iff.mp h).1
    omega
  show (match dat xs k with | some d => Res.ok d | none => .stuck) = _
  unfold dat
  rw [atI_nn h0 h1, h]
theorem compL_all {i : Nat} {me : M} {ω : Store} {ρ : Env'} {d : D} : ∀ {l : List D}, (∀ x ∈ l, me (ρ.set i (.val x)) ω = .ok d) → compL i bTrue me ω ρ l = .ok (l.map fun _ => d)
  | [], _ => rfl
  | x :: r, h => by
    unfold compL
    rw [h x List.mem_cons_self, compL_all fun y hy => h y (List.mem_cons_of_mem _ hy)]
    rfl
@[simp] theorem rangeD_len (lo : Int) (n : Nat) : (rangeD lo n).length = n := by simp [rangeD]
theorem rangeD_mem {n : Nat} {x : D} (h : x ∈ rangeD 0 n) : ∃ j : Nat, j < n ∧ x = .int (j : Int) := by
  unfold rangeD at h
  obtain ⟨j, hj, e⟩ := List.mem_map.mp h
  exact ⟨j, List.mem_range.mp hj, by rw [← e, Int.zero_add]⟩
theorem asRng1_int {i : Int} (h0 : 0 ≤ i) (h : i ≤ 1000000) : asRng1 (.int i) = .ok (rangeD 0 i.toNat) := by
  have hb : (i < 4611686018427387904 ∧ -4611686018427387904 ≤ i) := by omega
  exact @if_pos _ (Classical.propDecidable _) hb _ _ _
theorem asRng1_len {n : Nat} (h : n ≤ 1000000) : asRng1 (.int n) = .ok (rangeD 0 n) := by
  have := asRng1_int (i := (n : Int)) (by omega) (by omega)
  rwa [Int.toNat_natCast] at this
end DL
namespace DL
open PySem PySem.Spec PySem.Calls PyProof.Rows L2

/-! ### texts joined, split -/
section
variable {X : Cx} {Wx : WX} {pos p apos : Pos} {a b : Expr} {Ba Bb : List Nat} {ma mb : M} {x : Str}
noncomputable def gJoin (x y : D) : Res D := match x, y with
  | .str a, .lst xs => (match D.strs? xs with
    | some ys => @ite _ ((ys.map (·.length)).sum + ys.length * a.length ≤ 16777216) (Classical.propDecidable _) (.ok (.str (Txt.join a ys))) .stuck
    | none => .stuck)
  | _, _ => .stuck
/-- the receiver is a text -/
@[simp] noncomputable def mStrM (ma mb : M) (g : D → D → Res D) : M := fun ρ ω => (ma ρ ω).bind fun x => match x with
  | .str s => (mb ρ ω).bind fun y => g (.str s) y
  | _ => .stuck
theorem strM_read {W : Wd} {F : Fm} {ρ : Env'} {ω : Store} {L : Lc} {σ : L2.St} {H : Hp} {Q : VK} {B : List Nat} {g : D → D → Res D} {r : V → List V → Hp → VK → Prop} (hA : ∀ i ∈ Ba, i ∈ B) (hB : ∀ i ∈ Bb, i ∈ B) (R : Rel W F ρ ω L σ H) (h : Leaf W Wx L B σ H Q (mStrM ma mb g ρ ω))
    (hr : ∀ (s : Str) (y : D) (w : V) (H2 : Hp), Rel W F ρ ω L σ H2 → RepU W H2 (Fr L B) (obs L) y w → Leaf W Wx L B σ H2 Q (g (.str s) y) → r (.str s) [w] H2 Q) : tM1 r (tU W Wx Ba ma) (tU W Wx Bb mb) σ H Q := by
  refine part1 (B := B) (k := fun x => match x with
    | .str s => (mb ρ ω).bind fun y => g (.str s) y
    | _ => .stuck) hA R h fun v H1 x s1 R1 r1 l1 => ?_
  cases x with
  | str s =>
    have e : v = .str s := r1
    subst e
    refine ⟨⟨s, rfl⟩, part1 (B := B) (k := fun y => g (.str s) y) hB R1 l1 fun w H2 y s2 R2 r2 l2 => hr s y w H2 R2 r2 l2⟩
  | _ => exact l1.elim
theorem d_join (ha : DU X Wx Ba a ma) (hb : DU X Wx Bb b mb) (hs : starEach [b] X.env = [(false, eval b X.env)] := by rfl) (hbase : attributeBase a "join" X.env (eval a X.env) = eval a X.env := by rfl) (hline : (apos.endLine == pos.line) = true := by rfl) :
    DP X Wx (Ba ++ Bb) (.Call (.Attribute a "join" apos) [b] [] pos) (mStrM ma mb gJoin) :=
  ⟨PE.weak (pe_join ha.pe hb.pe hs hbase hline) fun σ H Q ⟨F, ρ, ω, L, R, h⟩ => strM_read subl subr R h fun s y w H2 R2 r2 l => by
    unfold gJoin at l
    cases y with
    | lst xs =>
      dsimp only at l
      split at l
      · rename_i ys e
        split at l
        · rename_i hl
          obtain ⟨p, vs, e1, h1, q⟩ := r2
          rw [D.strs_some e] at q
          exact ⟨s, p, ys, rfl, by rw [e1], .inl (.of (by rw [← Reps.strs q]; exact h1)), hl, l.ret rfl⟩
        · exact l.elim
      · exact l.elim
    | _ => exact l.elim⟩
noncomputable def gSplit (x y : D) : Res D := match x, y with
  | .str a, .str b => @ite _ ((b.length == 0) = false ∧ a.length + 2 ≤ 16777216) (Classical.propDecidable _) (.ok (.lst ((Txt.split a b).map .str))) .stuck
  | _, _ => .stuck
theorem d_split (ha : DU X Wx Ba a ma) (hb : DU X Wx Bb b mb) (hs : starEach [b] X.env = [(false, eval b X.env)] := by rfl) (hbase : attributeBase a "split" X.env (eval a X.env) = eval a X.env := by rfl) (hline : (apos.endLine == pos.line) = true := by rfl) :
    DP X Wx (Ba ++ Bb) (.Call (.Attribute a "split" apos) [b] [] pos) (mStrM ma mb gSplit) :=
  ⟨PE.weak (pe_split ha.pe hb.pe hs hbase hline) fun σ H Q ⟨F, ρ, ω, L, R, h⟩ => strM_read subl subr R h fun s y w H2 R2 r2 l => by
    unfold gSplit at l
    cases y with
    | str t =>
      dsimp only at l
      split at l
      · rename_i hl
        have e : w = .str t := r2
        subst e
        refine ⟨s, t, rfl, rfl, hl.1, by rw [sizeLine_eq]; exact hl.2, fun z hz => ?_⟩
        exact l.ret' (same_upd hz) ⟨z, _, rfl, R2.al.fr hz _, upd_same, Reps.ofStrs _⟩
      · exact l.elim
    | _ => exact l.elim⟩
/-! ### a module's tuple of texts -/
structure Ct (K : PySem.W.Frag) (mg : Str → Option Value) (x : Str) (ds : List Str) : Prop where
  ex : ∃ a, mg x = some (.ref a) ∧ KT K a (ds.map V.str)
def ctB (K : PySem.W.Frag) (x : Str) (ds : List Str) : Bool := match K.lookup (He.ga K x) with
  | some ⟨.type t, _, .seq its _, _⟩ => decide (t = "tuple") && (decide (its.size ≤ 1000) && He.relAll (ds.map V.str) its.toList)
  | _ => false
theorem ctB_ok {K : PySem.W.Frag} {mg : Str → Option Value} {x : Str} {ds : List Str} (hm : mg x = some (.ref (He.ga K x))) (h : ctB K x ds = true) : Ct K mg x ds := by
  unfold ctB at h
  split at h
  · rename_i t dd its n sl lk
    obtain ⟨h1, h⟩ := Bool.and_eq_true_iff.mp h
    obtain ⟨h2, h3⟩ := Bool.and_eq_true_iff.mp h
    refine ⟨_, hm, _, its, n, lk, by rw [of_decide_eq_true h1], rfl, ?_, He.relAll_ok h3⟩
    have := of_decide_eq_true h2
    rw [sizeLine_eq]; omega
  · cases h
theorem d_ctS {ds : List Str} (hg : Gl X x) (c : Ct X.K X.mg x ds) (hd : (x == ("__debug__" : Str)) = false := by decide) : DP X Wx [] (.Name x pos) (mC (.ctup (ds.map .str))) := by
  obtain ⟨a, hm, kt⟩ := c.ex
  exact d_const (pe_glob (v := .ref a) hg hm rfl hd) fun H S ob => ⟨a, _, rfl, kt, Reps.ofStrs ds⟩
end
end DL
namespace DL
open PySem PySem.Spec PyProof.Rows L2

/-! ### the mirrors over texts -/
@[simp] theorem gLen_str {s : Str} (h : s.length ≤ 1000000) : gLen (.str s) = .ok (.int s.length) := @if_pos _ (Classical.propDecidable _) (by omega) _ _ _
theorem gAdd_str {a b : Str} (h : a.length + b.length ≤ 1000000) : gAdd (.str a) (.str b) = .ok (.str (a ++ b)) := @if_pos _ (Classical.propDecidable _) (by omega) _ _ _
theorem gAdd_lst {a b : List D} (h : a.length + b.length ≤ 1000000) : gAdd (.lst a) (.lst b) = .ok (.lst (a ++ b)) := @if_pos _ (Classical.propDecidable _) (by omega) _ _ _
theorem gMul_lst {a : List D} {n : Int} (h : 0 ≤ n ∧ n ≤ 1000 ∧ a.length ≤ 1000) : gMul (.lst a) (.int n) = .ok (.lst (List.replicate n.toNat a).flatten) := if_pos h
theorem gSl_str {s : Str} {lo hi : Option Int} (h : s.length ≤ 1000000) : gSl (.str s) lo hi = .ok (.str (cutS s lo hi)) := @if_pos _ (Classical.propDecidable _) (by omega) _ _ _
@[simp] theorem gSl_lst {xs : List D} {lo hi : Option Int} : gSl (.lst xs) lo hi = .ok (.lst (cutD xs lo hi)) := rfl
theorem gIx_str {s : Str} {k : Int} (h0 : 0 ≤ k) (h1 : k < s.length) (hl : s.length ≤ 1000000) : ∃ c, s.cps.toList[k.toNat]? = some c ∧ gIx (.str s) (.int k) = .ok (.str ⟨#[c]⟩) := by
  have hsz : s.cps.toList.length = s.length := by rw [Array.length_toList]; rfl
  have hk : k.toNat < s.cps.toList.length := by omega
  refine ⟨s.cps.toList[k.toNat], List.getElem?_eq_getElem hk, ?_⟩
  show @ite _ (s.length ≤ 16777216) (Classical.propDecidable _) (match atI s.cps.toList k with
    | some c => Res.ok (D.str ⟨#[c]⟩)
    | none => .stuck) .stuck = _
  rw [@if_pos _ (Classical.propDecidable _) (by omega), atI_nn h0 (by omega), List.getElem?_eq_getElem hk]
theorem append_len (a b : Str) : (a ++ b).length = a.length + b.length := by
  show (a.cps ++ b.cps).size = _
  rw [Array.size_append]; rfl
theorem cutS_len (s : Str) (lo hi : Option Int) : (cutS s lo hi).length ≤ s.length := by
  show ((s.cps.toList.drop _).take _).toArray.size ≤ _
  rw [List.size_toArray, List.length_take, List.length_drop, Array.length_toList]
  have : s.cps.size = s.length := rfl
  omega
theorem one_len (c : Nat) : Str.length ⟨#[c]⟩ = 1 := rfl
theorem gIn_sign (c : Nat) (t : Str) : gIn (.str ⟨#[c]⟩) (.str t) = .ok (.bl (decide (c ∈ t.cps.toList))) := rfl
theorem gNotIn_sign (c : Nat) (t : Str) : gNotIn (.str ⟨#[c]⟩) (.str t) = .ok (.bl (!decide (c ∈ t.cps.toList))) := rfl
theorem signsD_len (s : Str) : (signsD s).length = s.length := by
  unfold signsD
  rw [List.length_map, Array.length_toList]; rfl
theorem compL_map {i : Nat} {me : M} {ω : Store} {ρ : Env'} {α : Type} {f : α → D} {g : α → D} : ∀ {l : List α}, (∀ x ∈ l, me (ρ.set i (.val (f x))) ω = .ok (g x)) → compL i bTrue me ω ρ (l.map f) = .ok (l.map g)
  | [], _ => rfl
  | x :: r, h => by
    rw [List.map_cons]
    unfold compL
    rw [h x List.mem_cons_self, compL_map fun y hy => h y (List.mem_cons_of_mem _ hy)]
    rfl
theorem bls_map : ∀ (l : List Bool), D.bls? (l.map .bl) = some l
  | [] => rfl
  | a :: l => by show (D.bls? (l.map .bl)).map (a :: ·) = _; rw [bls_map l]; rfl
theorem gAll_bls (l : List Bool) : gAll (.lst (l.map .bl)) = .ok (.bl (l.all id)) := by
  show (match D.bls? (l.map .bl) with
    | some bs => Res.ok (D.bl (bs.all id))
    | none => .stuck) = _
  rw [bls_map]
theorem gJoin_ok {a : Str} {ys : List Str} (h : (ys.map (·.length)).sum + ys.length * a.length ≤ 1000000) : gJoin (.str a) (.lst (ys.map .str)) = .ok (.str (Txt.join a ys)) := by
  show (match D.strs? (ys.map .str) with
    | some ys => @ite _ ((ys.map (fun y : Str => y.length)).sum + ys.length * a.length ≤ 16777216) (Classical.propDecidable _) (Res.ok (D.str (Txt.join a ys))) .stuck
    | none => .stuck) = _
  rw [D.strs_map]
  exact @if_pos _ (Classical.propDecidable _) (by omega) _ _ _
theorem cutD_map {α : Type} (f : α → D) (l : List α) (lo hi : Option Int) : cutD (l.map f) lo hi = (cutD l lo hi).map f := by
  unfold cutD
  rw [List.length_map, ← List.map_drop, ← List.map_take]
theorem cutD_mem {α : Type} {l : List α} {k : Nat} {hi : Option Int} {x : α} (h : x ∈ cutD l (some (k : Int)) hi) : ∃ j, k ≤ j ∧ l[j]? = some x := by
  unfold cutD at h
  have h := List.mem_of_mem_take h
  rw [HT.sIx_nat] at h
  obtain ⟨j, hj, e⟩ := List.mem_iff_getElem.mp h
  rw [List.getElem_drop] at e
  rw [List.length_drop] at hj
  refine ⟨min k l.length + j, ?_, ?_⟩
  · by_cases hk : k ≤ l.length
    · rw [Nat.min_eq_left hk]; omega
    · rw [Nat.min_eq_right (by omega)] at hj; omega
  · rw [← e]; exact List.getElem?_eq_getElem _
theorem cutD_len {α : Type} (l : List α) (lo hi : Option Int) : (cutD l lo hi).length ≤ l.length := by
  unfold cutD
  rw [List.length_take, List.length_drop]; omega
end DL
namespace DL
open PySem PySem.Spec PySem.Calls PyProof.Rows L2

/-! ### a module's dict of texts by texts -/
structure Kd (K : PySem.W.Frag) (w : World) (mg : Str → Option Value) (x : Str) (tbl : List (Str × Str)) : Prop where
  ex : ∃ d es n, mg x = some (.ref d) ∧ KDict K w d es n ∧ (∀ z y, tbl.lookup z = some y → ∃ u, PySem.W.nsIn K d z = some (some u) ∧ RelV (.str y) u) ∧ ∀ z, tbl.lookup z = none → PySem.W.nsIn K d z = some none
def kdE (e : DictEntry) : Option (Str × Str) := match e.key, e.val with
  | .str x _, .str y _ => some (x, y)
  | _, _ => none
def kdB (K : PySem.W.Frag) (x : Str) (tbl : List (Str × Str)) : Bool := match K.lookup (He.ga K x) with
  | some ⟨_, _, .dict es _, _⟩ => decide (es.toList.map kdE = tbl.map some)
  | _ => false
theorem kd_get {z : Str} : ∀ {l : List DictEntry} {tbl : List (Str × Str)}, l.map kdE = tbl.map some → (match tbl.lookup z with
    | some y => ∃ e t, l.find? (·.key.isStr z) = some e ∧ e.val = .str y t
    | none => l.find? (·.key.isStr z) = none ∧ l.any (·.refKey) = false)
  | [], [], _ => ⟨rfl, rfl⟩
  | e :: l, [], h => by cases h
  | [], p :: tbl, h => by cases h
  | e :: l, (a, b) :: tbl, h => by
    have h1 : kdE e :: l.map kdE = some (a, b) :: tbl.map some := h
    injection h1 with h2 h3
    have ih := kd_get (z := z) h3
    obtain ⟨eh, ek, ev⟩ := e
    unfold kdE at h2
    split at h2
    · rename_i x t y t' e1 e2
      have h4 := Option.some.inj h2
      obtain ⟨h5, h6⟩ := Prod.mk.inj h4
      subst h5 h6
      have e1 : ek = .str x t := e1
      have e2 : ev = .str y t' := e2
      subst e1 e2
      by_cases hz : z = x
      · subst hz
        simp only [List.lookup, beq_self_eq_true]
        exact ⟨⟨eh, .str z t, .str y t'⟩, t', by simp [List.find?, Value.isStr], rfl⟩
      · have hz1 : (z == x) = false := by simpa using hz
        have hz2 : (Value.str x t).isStr z = false := by
          have : ¬ x = z := fun e => hz e.symm
          simp [Value.isStr, this]
        simp only [List.lookup, hz1]
        have r : DictEntry.refKey ⟨eh, .str x t, .str y t'⟩ = false := rfl
        cases q : tbl.lookup z with
        | some y2 =>
          rw [q] at ih
          obtain ⟨e, t2, h7, h8⟩ := ih
          exact ⟨e, t2, by rw [List.find?_cons, hz2]; exact h7, h8⟩
        | none =>
          rw [q] at ih
          exact ⟨by rw [List.find?_cons, hz2]; exact ih.1, by rw [List.any_cons, r, ih.2]; rfl⟩
    · cases h2
theorem kdB_ok {K : PySem.W.Frag} {w : World} {mg : Str → Option Value} {x : Str} {tbl : List (Str × Str)} (hm : mg x = some (.ref (He.ga K x))) (hk : ∃ es n, KDict K w (He.ga K x) es n) (h : kdB K x tbl = true) : Kd K w mg x tbl := by
  obtain ⟨es, n, k⟩ := hk
  unfold kdB at h
  rw [k.at_] at h
  have e : es.toList.map kdE = tbl.map some := of_decide_eq_true h
  refine ⟨_, es, n, hm, k, fun z y hz => ?_, fun z hz => ?_⟩
  · have q := kd_get (z := z) e
    rw [hz] at q
    obtain ⟨en, t, h1, h2⟩ := q
    refine ⟨en.val, ?_, t, h2⟩
    unfold PySem.W.nsIn
    rw [k.at_]
    show (match es.toList.find? (·.key.isStr z) with
      | some e => some (some e.val)
      | none => if es.toList.any (·.refKey) then none else some none) = _
    rw [h1]
  · have q := kd_get (z := z) e
    rw [hz] at q
    unfold PySem.W.nsIn
    rw [k.at_]
    show (match es.toList.find? (·.key.isStr z) with
      | some e => some (some e.val)
      | none => if es.toList.any (·.refKey) then none else some none) = _
    rw [q.1, q.2]; rfl
section
variable {X : Cx} {Wx : WX} {pos p : Pos} {a b : Expr} {Ba Bb : List Nat} {ma mb : M} {x : Str} {tbl : List (Str × Str)}
@[simp] def gKdIn (tbl : List (Str × Str)) : D → Res D
  | .str z => .ok (.bl (tbl.lookup z).isSome)
  | _ => .stuck
@[simp] def gKdNin (tbl : List (Str × Str)) : D → Res D
  | .str z => .ok (.bl (!(tbl.lookup z).isSome))
  | _ => .stuck
@[simp] def gKdIx (tbl : List (Str × Str)) : D → Res D
  | .str z => (match tbl.lookup z with
    | some y => .ok (.str y)
    | none => .stuck)
  | _ => .stuck
@[simp] def bOf (m : M) : Env' → Store → Res Bool := fun ρ ω => (m ρ ω).bind fun z => match z with | .bl k => .ok k | _ => .stuck
theorem t_kdNin (hg : Gl X x) (c : Kd X.K X.w X.mg x tbl) (ha : DU X Wx Ba a ma) (hd : (x == ("__debug__" : Str)) = false := by decide) : DB X Wx (.Compare a [.NotIn] [.Name x p] pos) (bOf (m1 ma (gKdNin tbl))) := by
  obtain ⟨d, es, n, hm, k, h1, h2⟩ := c.ex
  refine ⟨PT.weak (pt_cmpR (op_notIn_kd k) ha.pe (pe_glob (v := .ref d) hg hm rfl hd) (by rfl)) fun σ H Q ⟨F, ρ, ω, L, R, h⟩ => ?_⟩
  have h : LeafB (wd X) Wx L σ H Q ((m1 ma (gKdNin tbl) ρ ω).bind fun z => match z with | .bl k => .ok k | _ => .stuck) := h
  refine part1 (B := Ba) (Q := fun x H' => ∃ k, x = .bl k ∧ Q k H') (k := gKdNin tbl) subid R (leaf_b h) fun v H1 y s R1 r l => ?_
  cases y with
  | str z =>
    have e : v = .str z := r
    subst e
    cases q : tbl.lookup z with
    | none =>
      change Leaf _ _ _ _ _ _ _ (.ok (.bl (!(tbl.lookup z).isSome))) at l
      rw [q] at l
      exact ⟨z, none, rfl, rfl, h2 z q, l.ret rfl⟩
    | some y =>
      obtain ⟨u, e1, e2⟩ := h1 z y q
      change Leaf _ _ _ _ _ _ _ (.ok (.bl (!(tbl.lookup z).isSome))) at l
      rw [q] at l
      exact ⟨z, some u, rfl, rfl, e1, l.ret rfl⟩
  | _ => exact l.elim
theorem d_kdIx (hg : Gl X x) (c : Kd X.K X.w X.mg x tbl) (hb : DU X Wx Bb b mb) (hd : (x == ("__debug__" : Str)) = false := by decide) (hs : PlainIx b := by exact fun _ _ => rfl) : DP X Wx Bb (.Subscript (.Name x p) b pos) (m1 mb (gKdIx tbl)) := by
  obtain ⟨d, es, n, hm, k, h1, h2⟩ := c.ex
  have ix : IxR X (fun x y H Q => ∃ (z : Str) (u0 : Value) (v0 : V), x = .ref d ∧ y = .str z ∧ PySem.W.nsIn X.K d z = some (some u0) ∧ RelV v0 u0 ∧ Q v0 H) := by
    intro value slice pins s σ H x y v u Q I rx ry h hs
    obtain ⟨z, u0, v0, rfl, rfl, e, r, q⟩ := h
    cases rx
    obtain ⟨t, rfl⟩ := ry
    exact tail_any (kd_type k I) PySem.F.slot_dict_getitem.lookup (wpAny_getItem_of (PySem.strKind_is X.prog X.w z t) (PySem.W.mapOf_K (prog := X.prog) I.kIn k.at_ k.lit) (PySem.W.find_K k.at_ e) ⟨v0, H, I.tok _, r, q⟩) hs
  refine ⟨PE.weak (pe_ix ix (pe_glob (v := .ref d) hg hm rfl hd) hb.pe hs) fun σ H Q ⟨F, ρ, ω, L, R, h⟩ => ?_⟩
  refine part1 (B := Bb) (k := gKdIx tbl) subid R h fun v H1 y s R1 r l => ?_
  cases y with
  | str z =>
    have e : v = .str z := r
    subst e
    cases q : tbl.lookup z with
    | none =>
      exfalso
      change Leaf _ _ _ _ _ _ _ (match tbl.lookup z with | some y => .ok (.str y) | none => .stuck) at l
      rw [q] at l
      exact l
    | some y =>
      obtain ⟨u, e1, e2⟩ := h1 z y q
      refine ⟨z, u, .str y, rfl, rfl, e1, e2, ?_⟩
      change Leaf _ _ _ _ _ _ _ (match tbl.lookup z with | some y => .ok (.str y) | none => .stuck) at l
      rw [q] at l
      exact l.ret rfl
  | _ => exact l.elim
end
end DL
namespace DL
open PySem PySem.Spec PySem.Calls PyProof.Rows L2

/-! ### enumerate(text) -/
def Ites (x : Str) : It := ⟨fun i _ => i < x.cps.size, fun i H v H' => ∃ (T : Addr) (c : Nat), v = .ref T ∧ H T = none ∧ H' = upd H T (.tup [.int (i : Nat), .str ⟨#[c]⟩]) ∧ x.cps[i]? = some c, fun i _ => x.cps.size ≤ i⟩
theorem draws_str {P : Program} {w : World} {A : Around} (hh : A.handled = none) (it : Addr) (x : Str) (t : Tok) (ty : String) (hty : ty = "str_ascii_iterator" ∨ ty = "str_iterator") :
    Draws P w A it [it] x.cps.size (fun i v => ∃ c u, x.cps[i]? = some c ∧ v = .str ⟨#[c]⟩ u) (fun i h => h.IsStrIter it ty x t i) := by
  rcases hty with z | z
  · rw [z]; exact Draws.strAscii hh it x t
  · rw [z]; exact Draws.strWide hh it x t
theorem turn_enumS {P : Program} {w : World} {K : PySem.W.Frag} {elts : List Expr} {kk : Nat} {tpos : Pos} (e it : Addr) (x : Str) (t : Tok) (ty : String) (hty : ty = "str_ascii_iterator" ∨ ty = "str_iterator") :
    Turn P w K (.Tuple elts kk tpos) (Ites x) [e, it] e (fun i h => (∃ o1, IsEnum h e it ((i : Nat) : Int) o1) ∧ h.IsStrIter it ty x t i ∧ e ≠ it ∧ i ≤ x.cps.size) where
  mem := by simp
  obj := fun i h ⟨⟨o1, h1⟩, ⟨o2, h2, _, h3⟩, _⟩ b hb => by
    rcases (show b = e ∨ b = it from by simpa using hb) with z | z
    · rw [z]; exact ⟨_, h1, fun v q => nomatch q⟩
    · rw [z]; exact ⟨o2, h2, fun v q => by rw [h3] at q; cases q⟩
  keep := fun i h h' ⟨⟨o1, h1⟩, ⟨o2, h2, h3⟩, h4, h5⟩ k => ⟨⟨o1, k e (by simp) _ h1⟩, ⟨o2, k it (by simp) _ h2, h3⟩, h4, h5⟩
  item := by
    intro X hP hw hK hc i pins s σ H E I hf ⟨⟨o1, h1⟩, h2, ne, _⟩ hg
    subst hP hw hK
    have D := draws_str (P := X.prog) (w := X.w) (A := X.A.in1) (I.ok.hd hc) it x t ty hty
    have se : e < s.heap.objs.size := Heap.lt_size h1
    have si : it < s.heap.objs.size := by obtain ⟨_, q, _⟩ := h2; exact Heap.lt_size q
    refine wpAny_pyNext_enum_itemD D h1 h2 hg ne (by simpa using ne) fun y h' tk ⟨c, u, hcx, ey⟩ eo st' ht hsz kp => ?_
    subst ey
    refine ⟨_, rfl, wpAny_letOwnedTupleGo_enum (s := { s with heap := h', toks := tk + 1 }) eo fun h2' eo2 sb => ?_⟩
    have tup2 := (sb.2 _ (Nat.ne_of_gt se)).trans ht
    have ob : ObjOk X.prog X.w (upd H s.heap.objs.size (.tup [.int (i : Nat), .str ⟨#[c]⟩])) h2' s.heap.objs.size (.tup [.int (i : Nat), .str ⟨#[c]⟩]) :=
      ⟨by show 2 ≤ sizeLine; decide, [.int i tk, .str ⟨#[c]⟩ u], .cons ⟨_, rfl⟩ (.cons ⟨_, rfl⟩ .nil), ⟨_, tup2, rfl, _, rfl⟩⟩
    have J : Inv X pins σ (upd H s.heap.objs.size (.tup [.int (i : Nat), .str ⟨#[c]⟩])) { s with heap := h2', toks := tk + 1 } :=
      I.turnedNew (ch := [e, it]) (fun b o hb q => (sb.2 b (fun z => hb (by simp [z]))).trans (kp b o (fun z => hb (by simp [z])) (fun z => hb (by simp [z])) q)) hf (Nat.le_refl _) ob
    refine ⟨.ref s.heap.objs.size, _, J, rfl, ⟨_, c, rfl, I.hok.fresh (Nat.le_refl _), rfl, hcx⟩, ⟨⟨.str ⟨#[c]⟩ u, ?_⟩, ?_, ne, hg⟩, fun b hb => ?_⟩
    · rw [show ((i + 1 : Nat) : Int) = (i : Int) + 1 from by omega]; exact eo2
    · obtain ⟨o3, e3, e4⟩ := st'
      exact ⟨o3, (sb.2 it (Ne.symm ne)).trans e3, e4⟩
    · have hb2 : b < s.heap.objs.size := by
        rcases (show b = e ∨ b = it from by simpa using hb) with z | z
        · rw [z]; exact se
        · rw [z]; exact si
      rw [upd_ne (Nat.ne_of_lt hb2)]; exact (hf b hb).1
  done := by
    intro X hP hw hK hc i pins s σ H E I hf ⟨⟨o1, h1⟩, h2, ne, hle⟩ hg
    subst hP hw hK
    have D := draws_str (P := X.prog) (w := X.w) (A := X.A.in1) (I.ok.hd hc) it x t ty hty
    obtain ⟨f0, f1, f2, f3, f4, f5⟩ := hf it (by simp)
    have ei : i = x.cps.size := Nat.le_antisymm hle hg
    rw [ei] at h2
    exact wpAny_pyNext_enum_endD D h1 h2 fun h' eb => ⟨rfl, I.turned (t' := s.toks) (fun b o hb q => eb b o hb q) f0 f1 f3 f4 f5⟩
  self := fun A i s Q E ⟨⟨_, h1⟩, _⟩ h => wpAny_pyIter_enum h1 h
def iEnumSt (ta : TA) : TI := fun σ H R => ta σ H fun vs H1 => ∃ x, vs = [.str x] ∧ R (Ites x) H1
section
variable {X : Cx} {Wx : WX} {a e : Expr} {ta : TA} {p pos tpos : Pos} {elts : List Expr} {kk : Nat} {B : List Nat} {m : M}
theorem pi_enumS (hg : Gl X "enumerate") (hm : X.mg "enumerate" = none) (ha : PA X [e] ta) (hs : starEach [e] X.env = [(false, eval e X.env)] := by rfl) : PI X (.Tuple elts kk tpos) (.Call (.Name "enumerate" p) [e] [] pos) (iEnumSt ta) := by
  refine ⟨fun pins s σ H R I h => Call_ (ld_blt I hg hm boot_enumerate (PyProof.Rows.callWith_type1 (thn (ha.run pos pins s σ H _ I h) fun us s1 ⟨vs, H1, I1, r1, x, ev, q⟩ => ?_) hs rfl))⟩
  subst ev
  cases r1 with
  | cons r rn =>
    cases rn
    obtain ⟨t, rfl⟩ := r
    refine call_enumerate_str fun h' he hit hsz hk => wpAny_pyIter_enum he ?_
    have I2 : Inv X pins σ H1 { s1 with heap := h' } := I1.kept (t' := s1.toks) hk
    have fin : ∀ ty, (ty = "str_ascii_iterator" ∨ ty = "str_iterator") → h'.IsStrIter s1.heap.objs.size ty x t 0 → PIE X pins σ (.Tuple elts kk tpos) R (.ref (s1.heap.objs.size + 1)) { s1 with heap := h' } := fun ty hty hi => by
      refine ⟨s1.heap.objs.size + 1, [s1.heap.objs.size + 1, s1.heap.objs.size], _, _, H1, rfl, I2, turn_enumS (s1.heap.objs.size + 1) s1.heap.objs.size x t ty hty, ⟨⟨.none, he⟩, hi, Nat.succ_ne_self _, Nat.zero_le _⟩, fun b hb => ?_, q⟩
      have hle : s1.heap.objs.size ≤ b := by
        rcases (show b = s1.heap.objs.size + 1 ∨ b = s1.heap.objs.size from by simpa using hb) with z | z
        · rw [z]; exact Nat.le_succ _
        · rw [z]; exact Nat.le_refl _
      exact I1.fpOk hle (I1.hok.fresh hle)
    cases ha : x.cps.all (· < 128)
    · exact fin "str_iterator" (.inr rfl) (by simpa [strIterType, ha] using hit)
    · exact fin "str_ascii_iterator" (.inl rfl) (by simpa [strIterType, ha] using hit)
theorem walks_enumS {W : Wd} {x : Str} : Walks W (Ites x) (enumD 0 (signsD x)) (fun _ _ _ => True) where
  go := fun S ob i H _ hi => by
    rw [enumD_len, signsD_len] at hi
    exact hi
  yld := fun S ob i H y H' _ ⟨T, c, e1, e2, e3, e4⟩ hi => by
    subst e3
    have sm := same_upd (o := .tup [.int (i : Nat), .str ⟨#[c]⟩]) e2
    refine ⟨sm, .tup [.int (i : Nat), .str ⟨#[c]⟩], ?_, T, _, e1, upd_same, ⟨_, _, rfl, rfl, _, _, rfl, rfl, rfl⟩⟩
    rw [enumD_get]
    have : (signsD x)[i]? = some (.str ⟨#[c]⟩) := by
      unfold signsD
      rw [List.getElem?_map, Array.getElem?_toList, e4]; rfl
    rw [this]; simp
  stop := fun S ob i H _ hi => by
    rw [enumD_len, signsD_len] at hi
    exact hi
  kp := fun _ _ _ _ _ _ _ _ => trivial
@[simp] def iEnumStr (m : M) : MA := fun ρ ω => (m ρ ω).bind fun d => match d with
  | .str x => .ok (enumD 0 (signsD x))
  | _ => .stuck
theorem i_enumS (hg : Gl X "enumerate") (hm : X.mg "enumerate" = none) (ha : DP X Wx B a m) (hs : starEach [a] X.env = [(false, eval a X.env)] := by rfl) : DI X Wx B (.Tuple elts kk tpos) (.Call (.Name "enumerate" p) [a] [] pos) (iEnumStr m) :=
  ⟨PI.weak (pi_enumS hg hm (pa_cons ha.pe pa_nil hs) hs) fun σ H R' ⟨F, ρ, ω, L, R, h⟩ => ⟨F, ρ, ω, L, R, leafI_bind R h fun d v H' s R1 q l => by
    cases d with
    | str x =>
      have e : v = .str x := q
      subst e
      exact ⟨x, rfl, l _ H' (fun _ _ _ => True) (Same.refl _) trivial walks_enumS⟩
    | _ => exact l.elim⟩⟩
/-! ### tuple(list) -/
@[simp] def gTuple : D → Res D
  | .lst xs => .ok (.tup xs)
  | _ => .stuck
theorem d_tuple {Ba : List Nat} {ma : M} (hg : Gl X "tuple") (hm : X.mg "tuple" = none) (ha : DU X Wx Ba a ma) (na : starEach [a] X.env = (false, eval a X.env) :: starEach [] X.env := by rfl) : DP X Wx Ba (.Call (.Name "tuple" p) [a] [] pos) (m1 ma gTuple) :=
  ⟨PE.weak (pe_tupleOf hg hm ha.pe na) fun σ H Q ⟨F, ρ, ω, L, R, h⟩ => part1 (k := gTuple) subid R h fun v H1 x s R1 q l => by
    cases x with
    | lst xs =>
      obtain ⟨a, vs, e1, h1, r⟩ := q
      refine .inl ⟨a, vs, e1, .of h1, fun z hz => ?_⟩
      have sm := same_upd (o := .tup vs) hz
      exact l.ret' sm ⟨z, vs, rfl, upd_same, r.same sm⟩
    | _ => exact l.elim⟩
/-! ### name = [..] -/
theorem s_setLc {x y : Str} {py spos : Pos} {elt tg iter : Expr} {ifs : List Expr} {scope : Scope} {Bi Be : List Nat} {ms : MA} {tt : Env' → Store → Res Bool} {me : M} {i j : Nat} (hc : X.calm = true) (hN : X.N.Nodup) (hy : X.N[i]? = some y) (hyl : X.env.scope.names.lookup y = some .local)
    (hsw : swapsWith (.ListComp elt [⟨tg, iter, ifs, 0⟩] scope pos) (some (.Name y py)) spos.line X.env = pure true) (hi : DI X Wx Bi tg iter ms) (ok : BlkOk X.N X.env.scope scope [(x, j)])
    (hg : ∀ (s : Shared) (H : Hp) (C : Addr) (cl : List (Str × Addr)) (fp : List Addr), PG (X.blk s H scope (compEnvC scope cl C X.env) fp) tg (gName j))
    (ht : ∀ (s : Shared) (H : Hp) (C : Addr) (cl : List (Str × Addr)) (fp : List Addr), DTs (X.blk s H scope (compEnvC scope cl C X.env) fp) W0 ifs tt)
    (he : ∀ (s : Shared) (H : Hp) (C : Addr) (cl : List (Str × Addr)) (fp : List Addr), DP (X.blk s H scope (compEnvC scope cl C X.env) fp) W0 Be elt me) (hs : ∀ x, foldedSetIterable iter X.env x = pure x := by intro _; rfl) :
    DS X Wx (.Assign [.Name y py] (.ListComp elt [⟨tg, iter, ifs, 0⟩] scope pos) spos) (sSetO i (j :: (Bi ++ Be)) (mComp j Bi ms tt me)) :=
  ⟨PS.weak (ps_setLc hc hN hy hyl hsw hi.pi ok hg (fun s H C cl fp => (ht s H C cl fp).pts) (fun s H C cl fp => (he s H C cl fp).pe) hs) fun G σ H ⟨F, ρ, ω, L, R, h⟩ => by
    show tLc (tI (wd X) Wx Bi ms) (gName j) (tT (wd X) W0 tt) (tP (wd X) W0 Be me) [j] σ H (fun x H1 => gName i x σ H1 G.nx)
    refine lc_read R ?_
    unfold sSetO ofE at h
    cases z : mComp j Bi ms tt me ρ ω with
    | stuck => rw [z] at h; exact h
    | err e => rw [z] at h; exact fun c d H' s x => h c d ρ σ H' L (R.same s) x
    | ok d =>
      rw [z] at h
      intro a H' s n r
      replace h : LeafS (wd X) Wx F G (if i < ρ.length then .nx ((demO (j :: (Bi ++ Be)) d ρ).set i (.own d)) ω else .stuck) := h
      split at h
      · rename_i hl
        obtain ⟨L', R2⟩ := R.storeO s (B := j :: (Bi ++ Be)) hl n r
        exact h _ H' L' R2
      · exact h.elim⟩
end
end DL
namespace DL
open PySem PySem.Spec PySem.Calls PyProof.Rows L2

theorem Kp.trans {H H1 H2 : Hp} {S S1 S2 : Addr → Prop} {ob ob1 ob2 : Nat → Option Addr} (k : Kp H H1 S S1 ob ob1) (k' : Kp H1 H2 S1 S2 ob1 ob2) : Kp H H2 S S2 ob ob2 :=
  ⟨fun a u f h => k'.s a u (k.s a u f h) (k.k a u f h), fun a u f h => k'.k a u (k.s a u f h) (k.k a u f h), fun a xs h => k'.t a xs (k.t a xs h), fun n a h => k'.o n a (k.o n a h)⟩
/-! ### behind a call that changes objects -/
def lcB (L L' : Lc) : Lc := fun p => match p with
  | .sl i => L (.sl i)
  | .fg a => L (.fg a)
  | p => L' p
section
variable {W : Wd} {F : Fm} {ρ ρ' : Env'} {ω ω' : Store} {L L' : Lc} {σ σ' : L2.St} {H H' : Hp} {n1 : Nat}
theorem back_fg (R : Rel W F ρ ω L σ H) (R' : Rel W ⟨n1, lcC L [], H⟩ [] ω' L' [] H') {p : Pl} {a : Addr} (hp : (∃ i, p = .sl i) ∨ ∃ b, p = .fg b) (e : L p = some a) : L' (.fg a) = some a := by
  have h : L' (.fg a) = lcC L [] (.fg a) := R'.aft.prot (.fg a) (fun z => z)
  rw [h]
  refine lcC_fg ?_
  rcases hp with ⟨i, rfl⟩ | ⟨b, rfl⟩
  · exact .inr ⟨i, List.not_mem_nil, e⟩
  · have := R.fgs b a e
    subst this
    exact .inl e
theorem kp_back (R : Rel W F ρ ω L σ H) (R' : Rel W ⟨n1, lcC L [], H⟩ [] ω' L' [] H') : Kp H' H' (Fr L' []) (Fr (lcB L L') []) (obs L') (obs (lcB L L')) where
  s := fun a u f _ p e => by
    have no : ∀ q, L' q = some a → False := fun q z => by
      obtain ⟨i, m, _⟩ := f q z
      cases m
    cases p with
    | sl i => exact (no _ (back_fg R R' (.inl ⟨i, rfl⟩) e)).elim
    | fg b => exact (no _ (back_fg R R' (.inr ⟨b, rfl⟩) e)).elim
    | fd n f => exact (no _ e).elim
    | ob n => exact (no _ e).elim
  k := fun _ _ _ h => h
  t := fun _ _ h => h
  o := fun n a h => h
theorem kp_over (R : Rel W F ρ ω L σ H) (R' : Rel W ⟨F.n0, lcC L [], H⟩ [] ω' L' [] H') : Kp H H' (Fr L []) (Fr (lcB L L') []) (obs L) (obs (lcB L L')) :=
  ((kp_call0 (B := [])).trans (R'.aft.kp (R.into [] F.n0 fun _ _ h => h).alive)).trans (kp_back R R')
theorem keep_slot (R : Rel W F ρ ω L σ H) (R' : Rel W ⟨n1, lcC L [], H⟩ [] ω' L' [] H') {i : Nat} {a : Addr} {u : HO} (e : L (.sl i) = some a) (h : H a = some u) : H' a = some u := by
  refine R'.aft.keep a u h fun p e1 m => ?_
  obtain ⟨p', e2, e3⟩ := lcC_some e1
  have ep := R.inj _ _ a e e2
  subst ep
  rcases e3 with ⟨rfl, k⟩ | ⟨rfl, _⟩
  · exact k i rfl
  · exact m
theorem Rel.back (R : Rel W F ρ ω L σ H) (R' : Rel W ⟨F.n0, lcC L [], H⟩ [] ω' L' [] H') : Rel W F ρ ω' (lcB L L') σ H' where
  inj := fun p q a e1 e2 => by
    cases p with
    | sl i => cases q with
      | sl j => exact R.inj _ _ a e1 e2
      | fg b => exact R.inj _ _ a e1 e2
      | fd n f => cases R'.inj _ _ a (back_fg R R' (.inl ⟨i, rfl⟩) e1) e2
      | ob n => cases R'.inj _ _ a (back_fg R R' (.inl ⟨i, rfl⟩) e1) e2
    | fg i => cases q with
      | sl j => exact R.inj _ _ a e1 e2
      | fg b => exact R.inj _ _ a e1 e2
      | fd n f => cases R'.inj _ _ a (back_fg R R' (.inr ⟨i, rfl⟩) e1) e2
      | ob n => cases R'.inj _ _ a (back_fg R R' (.inr ⟨i, rfl⟩) e1) e2
    | fd n f => cases q with
      | sl j => cases R'.inj _ _ a (back_fg R R' (.inl ⟨j, rfl⟩) e2) e1
      | fg b => cases R'.inj _ _ a (back_fg R R' (.inr ⟨b, rfl⟩) e2) e1
      | fd n f => exact R'.inj _ _ a e1 e2
      | ob n => exact R'.inj _ _ a e1 e2
    | ob n => cases q with
      | sl j => cases R'.inj _ _ a (back_fg R R' (.inl ⟨j, rfl⟩) e2) e1
      | fg b => cases R'.inj _ _ a (back_fg R R' (.inr ⟨b, rfl⟩) e2) e1
      | fd n f => exact R'.inj _ _ a e1 e2
      | ob n => exact R'.inj _ _ a e1 e2
  alive := fun p a e => by
    cases p with
    | sl i => exact R'.alive _ a (back_fg R R' (.inl ⟨i, rfl⟩) e)
    | fg b => exact R'.alive _ a (back_fg R R' (.inr ⟨b, rfl⟩) e)
    | fd n f => exact R'.alive _ a e
    | ob n => exact R'.alive _ a e
  aft :=
    { keep := fun a u h hp => R'.aft.keep a u (R.aft.keep a u h hp) fun p e m => by
        obtain ⟨p', e1, e2⟩ := lcC_some e
        rcases e2 with ⟨rfl, k⟩ | ⟨rfl, _⟩
        · rcases m.cases with ⟨i, rfl⟩ | m'
          · exact k i rfl
          · rcases R.aft.newM p' a m' e1 with ⟨q, mq, eq⟩ | z
            · exact hp q eq mq.mt
            · rw [h] at z; cases z
        · exact m
      newS := fun i a e => R.aft.newS i a e
      newM := fun p a m e => by
        have e' : L' p = some a := by cases p <;> first | exact e | exact m.elim
        rcases R'.aft.newM p a m e' with ⟨q, mq, eq⟩ | z
        · obtain ⟨q', e1, e2⟩ := lcC_some eq
          rcases e2 with ⟨rfl, _⟩ | ⟨rfl, _⟩
          · exact R.aft.newM q' a mq e1
          · exact mq.elim
        · exact .inr (R.aft.fresh z)
      prot := fun p m => by
        cases p with
        | sl i => exact absurd trivial m
        | fg b => exact R.aft.prot _ m
        | fd n f => exact (R'.aft.prot (.fd n f) m).trans (R.aft.prot _ m)
        | ob n => exact (R'.aft.prot (.ob n) m).trans (R.aft.prot _ m)
      obk := fun n a h => R'.aft.obk n a (R.aft.obk n a h)
      there := fun a u h => by
        obtain ⟨v, q⟩ := R.aft.there a u h
        exact R'.aft.there a v q }
  fgs := fun a b e => R.fgs a b e
  len := R.len
  sl := fun i s e => by
    have q := R.sl i s e
    cases s with
    | no => trivial
    | val d =>
      obtain ⟨x, e1, r⟩ := q
      exact ⟨x, e1, Rep.mono (kp_over R R') d x r⟩
    | own d =>
      obtain ⟨a, e1, l, r⟩ := q
      refine ⟨a, e1, l, RepO.mono (kp_over R R') (fun u h => ⟨fun z => keep_slot R R' l (h.1 z), ?_⟩) (fun xs h => keep_slot R R' l h) r⟩
      rcases h.2 with h | ⟨o, h⟩
      · exact .inl (keep_slot R R' l h)
      · exact .inr ⟨o, keep_slot R R' l h⟩
  st := fun n o e => ObR.places (kp_back R R') (fun f => rfl) (R'.st n o e)
  dom := R'.dom
end

/-! ### expressions that may change objects -/
inductive RE where
  | stuck
  | ok (d : D) (ρ : Env') (ω : Store)
  | er (e : Er) (ω : Store)
abbrev MX := Nat → Env' → Store → RE
def RE.bind (r : RE) (k : D → Env' → Store → RE) : RE := match r with
  | .stuck => .stuck
  | .er e ω => .er e ω
  | .ok d ρ ω => k d ρ ω
@[simp] theorem RE.bind_ok {d : D} {ρ : Env'} {ω : Store} {k : D → Env' → Store → RE} : (RE.ok d ρ ω).bind k = k d ρ ω := rfl
@[simp] theorem RE.bind_stuck {k : D → Env' → Store → RE} : RE.stuck.bind k = .stuck := rfl
@[simp] theorem RE.bind_er {e : Er} {ω : Store} {k : D → Env' → Store → RE} : (RE.er e ω).bind k = .er e ω := rfl
@[simp] def ofR (r : Res D) (ρ : Env') (ω : Store) : RE := match r with
  | .stuck => .stuck
  | .err e => .er e ω
  | .ok d => .ok d ρ ω
def LeafX (W : Wd) (Wx : WX) (F : Fm) (σ : L2.St) (Q : VK) : RE → Prop
  | .stuck => False
  | .ok d ρ ω => ∀ v H L, Rel W F ρ ω L σ H → Rep W H (Fr L []) (obs L) d v → Q v H
  | .er e ω => ∀ cls dd ρ H L, Rel W F ρ ω L σ H → Exc W H e cls dd → Wx cls dd σ H
def tX (W : Wd) (Wx : WX) (m : MX) : TE := fun σ H Q => ∃ F ρ ω L, Rel W F ρ ω L σ H ∧ LeafX W Wx F σ Q (m F.n0 ρ ω)
structure DX (X : Cx) (Wx : WX) (e : Expr) (m : MX) : Prop where
  pe : PE X e (tX (wd X) Wx m)
section
variable {W : Wd} {Wx : WX} {F : Fm} {ρ ρ' : Env'} {ω ω' : Store} {L L' : Lc} {σ σ' : L2.St} {H H' : Hp}
theorem leafX_bind {r : RE} {k : D → Env' → Store → RE} {Q : VK} (R : Rel W F ρ ω L σ H) (h : LeafX W Wx F σ Q (r.bind k)) {P : VK}
    (hP : ∀ d ρ' ω' v H' L', r = .ok d ρ' ω' → Rel W (F.at L H) ρ' ω' L' σ H' → Rep W H' (Fr L' []) (obs L') d v → LeafX W Wx F σ Q (k d ρ' ω') → P v H') : LeafX W Wx (F.at L H) σ P r := by
  cases r with
  | stuck => exact h
  | er e ω => exact fun c dd ρ H L R' x => h c dd ρ H L (R.up R') x
  | ok d ρ' ω' => exact fun v H' L' R' q => hP d ρ' ω' v H' L' rfl R' q h
theorem leafX_ofR {g : Res D} {Q : VK} (R : Rel W F ρ ω L σ H) (h : LeafX W Wx F σ Q (ofR g ρ ω)) : Leaf W Wx L [] σ H Q g := by
  cases g with
  | stuck => exact h
  | err e => exact fun c d H' s x => h c d ρ H' L (R.same s) x
  | ok d => exact fun v H' s q => h v H' L (R.same s) q
end
section
variable {X : Cx} {Wx : WX} {pos p p' apos : Pos} {a b c e o : Expr} {es : List Expr} {Ba Bb B : List Nat} {ma mb m : M} {xa xb : MX} {x y f : Str}
@[simp] def xP (B : List Nat) (m : M) : MX := fun _ ρ ω => match m ρ ω with
  | .stuck => .stuck
  | .err e => .er e ω
  | .ok d => .ok d (dem B d ρ) ω
theorem x_pure (h : DP X Wx B e m) : DX X Wx e (xP B m) := ⟨PE.weak h.pe fun σ H Q ⟨F, ρ, ω, L, R, h⟩ => ⟨F, ρ, ω, L, R, by
  unfold xP at h
  cases z : m ρ ω with
  | stuck => rw [z] at h; exact h
  | err e => rw [z] at h; exact fun c d H' s x => h c d ρ H' L (R.same s) x
  | ok d =>
    rw [z] at h
    intro v H' s q
    obtain ⟨L', R', q'⟩ := (R.same s).loosen q
    exact h v H' L' R' q'⟩⟩
/-- two parts, one behind the other -/
theorem part2x {W : Wd} {F : Fm} {ρ : Env'} {ω : Store} {L : Lc} {σ : L2.St} {H : Hp} {Q : VK} {k : D → D → Env' → Store → RE} (R : Rel W F ρ ω L σ H) (h : LeafX W Wx F σ Q ((xa F.n0 ρ ω).bind fun x ρ1 ω1 => (xb F.n0 ρ1 ω1).bind fun y ρ2 ω2 => k x y ρ2 ω2)) {P : V → V → Hp → Prop}
    (hP : ∀ v w H2 L2 ρ2 ω2 x y, Rel W F ρ2 ω2 L2 σ H2 → Rep W H2 (Fr L2 []) (obs L2) x v → Rep W H2 (Fr L2 []) (obs L2) y w → LeafX W Wx F σ Q (k x y ρ2 ω2) → P v w H2) : tX W Wx xa σ H (fun v H1 => tX W Wx xb σ H1 (fun w H2 => P v w H2)) := by
  refine ⟨F.at L H, ρ, ω, L, R.sub, leafX_bind R h fun x ρ1 ω1 v H1 L1 _ R1 q1 l1 => ?_⟩
  have R1' := R.up R1
  refine ⟨F.at L1 H1, ρ1, ω1, L1, R1'.sub, leafX_bind R1' l1 fun y ρ2 ω2 w H2 L2 _ R2 q2 l2 => ?_⟩
  exact hP v w H2 L2 ρ2 ω2 x y (R1'.up R2) (Rep.mono (R2.aft.kp R1'.alive) _ _ q1) q2 l2
@[simp] def xO2 (xa xb : MX) (g : D → D → Res D) : MX := fun n0 ρ ω => (xa n0 ρ ω).bind fun x ρ1 ω1 => (xb n0 ρ1 ω1).bind fun y ρ2 ω2 => ofR (g x y) ρ2 ω2
theorem x_bin {op : Operator} {g : D → D → Res D} {r : R2} (ho : OpR X (binaryOp op) r) (hl : LfOp (wd X) g r) (ha : DX X Wx a xa) (hb : DX X Wx b xb) : DX X Wx (.BinOp a op b pos) (xO2 xa xb g) :=
  ⟨PE.weak (pe_op ho ha.pe hb.pe) fun σ H Q ⟨F, ρ, ω, L, R, h⟩ => part2x (k := fun x y ρ2 ω2 => ofR (g x y) ρ2 ω2) R h fun v w H2 L2 ρ2 ω2 x y R2 p q l => hl Wx L2 [] σ H2 Q x y v w R2.al p.u q.u (leafX_ofR R2 l)⟩
theorem x_cmp {op : CmpOp} {g : D → D → Res D} {r : R2} (ho : OpR X (compareOp op) r) (hl : LfOp (wd X) g r) (hm : behindInMarks op b = false) (ha : DX X Wx a xa) (hb : DX X Wx b xb) : DX X Wx (.Compare a [op] [b] pos) (xO2 xa xb g) :=
  ⟨PE.weak (pe_cmpR ho ha.pe hb.pe hm) fun σ H Q ⟨F, ρ, ω, L, R, h⟩ => part2x (k := fun x y ρ2 ω2 => ofR (g x y) ρ2 ω2) R h fun v w H2 L2 ρ2 ω2 x y R2 p q l => hl Wx L2 [] σ H2 Q x y v w R2.al p.u q.u (leafX_ofR R2 l)⟩
theorem x_add (ha : DX X Wx a xa) (hb : DX X Wx b xb) : DX X Wx (.BinOp a .Add b pos) (xO2 xa xb gAdd) := x_bin op_add4 lf_add ha hb
theorem x_eq (hu : X.A.units + 64 < cLine) (ha : DX X Wx a xa) (hb : DX X Wx b xb) : DX X Wx (.Compare a [.Eq] [b] pos) (xO2 xa xb gEq) := x_cmp (op_eq3 hu) lf_eq (nomark _) ha hb
theorem x_ne (hu : X.A.units + 64 < cLine) (ha : DX X Wx a xa) (hb : DX X Wx b xb) : DX X Wx (.Compare a [.NotEq] [b] pos) (xO2 xa xb gNe) := x_cmp (op_ne3 hu) lf_ne (nomark _) ha hb
/-- one part -/
theorem part1x {W : Wd} {F : Fm} {ρ : Env'} {ω : Store} {L : Lc} {σ : L2.St} {H : Hp} {Q : VK} {k : D → Env' → Store → RE} (R : Rel W F ρ ω L σ H) (h : LeafX W Wx F σ Q ((xa F.n0 ρ ω).bind k)) {P : VK}
    (hP : ∀ v H1 L1 ρ1 ω1 x, Rel W F ρ1 ω1 L1 σ H1 → Rep W H1 (Fr L1 []) (obs L1) x v → LeafX W Wx F σ Q (k x ρ1 ω1) → P v H1) : tX W Wx xa σ H P :=
  ⟨F.at L H, ρ, ω, L, R.sub, leafX_bind R h fun x ρ1 ω1 v H1 L1 _ R1 q1 l1 => hP v H1 L1 ρ1 ω1 x (R.up R1) q1 l1⟩
@[simp] def xO1 (xa : MX) (g : D → Res D) : MX := fun n0 ρ ω => (xa n0 ρ ω).bind fun x ρ1 ω1 => ofR (g x) ρ1 ω1
theorem x_callB1 {id : String} {r : List V → Hp → VK → Prop} {g : D → Res D} (hc : CallR X (.builtin id) r) (hl : LfC (wd X) g r) (hg : Gl X x) (hm : X.mg x = none) (hv : bootBuiltins x = some (.builtin id)) (ha : DX X Wx a xa) (hn : x ≠ "__name__" := by decide) (hdb : (x == ("__debug__" : Str)) = false := by decide)
    (he : starEach [a] X.env = (false, eval a X.env) :: starEach [] X.env := by rfl) (hpl : (backTo pos (starEach [] X.env)).any (·.1) = false := by rfl) : DX X Wx (.Call (.Name x p) [a] [] pos) (xO1 xa g) :=
  ⟨PE.weak (pe_callB hc hg hm hv (pa_cons ha.pe pa_nil he) hn hdb he hpl) fun σ H Q ⟨F, ρ, ω, L, R, h⟩ => part1x (k := fun x ρ1 ω1 => ofR (g x) ρ1 ω1) R h fun v H1 L1 ρ1 ω1 x R1 q l => hl Wx L1 [] σ H1 Q x v R1.al q.u (leafX_ofR R1 l)⟩
theorem x_callT1 {T : String} {r : List V → Hp → VK → Prop} {g : D → Res D} (hc : CallR X (.type T) r) (hl : LfC (wd X) g r) (hg : Gl X x) (hm : X.mg x = none) (hv : bootBuiltins x = some (.type T)) (ha : DX X Wx a xa) (hn : x ≠ "__name__" := by decide) (hdb : (x == ("__debug__" : Str)) = false := by decide)
    (he : starEach [a] X.env = (false, eval a X.env) :: starEach [] X.env := by rfl) (hpl : (backTo pos (starEach [] X.env)).any (·.1) = false := by rfl) : DX X Wx (.Call (.Name x p) [a] [] pos) (xO1 xa g) :=
  ⟨PE.weak (pe_callTy hc hg hm hv (pa_cons ha.pe pa_nil he) hn hdb he hpl) fun σ H Q ⟨F, ρ, ω, L, R, h⟩ => part1x (k := fun x ρ1 ω1 => ofR (g x) ρ1 ω1) R h fun v H1 L1 ρ1 ω1 x R1 q l => hl Wx L1 [] σ H1 Q x v R1.al q.u (leafX_ofR R1 l)⟩
theorem x_len (hg : Gl X "len") (hm : X.mg "len" = none) (ha : DX X Wx a xa) (he : starEach [a] X.env = (false, eval a X.env) :: starEach [] X.env := by rfl) : DX X Wx (.Call (.Name "len" p) [a] [] pos) (xO1 xa gLen) := x_callB1 call_len4 lf_len hg hm boot_len ha (he := he)
theorem x_str (hg : Gl X "str") (hm : X.mg "str" = none) (ha : DX X Wx a xa) (he : starEach [a] X.env = (false, eval a X.env) :: starEach [] X.env := by rfl) : DX X Wx (.Call (.Name "str" p) [a] [] pos) (xO1 xa gStr) := x_callT1 call_str2 lf_str hg hm (by decide +kernel) ha (he := he)
theorem x_ix (hu : X.A.units + 64 < cLine) (ha : DX X Wx a xa) (hb : DX X Wx b xb) (hs : PlainIx b := by exact fun _ _ => rfl) : DX X Wx (.Subscript a b pos) (xO2 xa xb gIx) :=
  ⟨PE.weak (pe_ix (ix_any hu) ha.pe hb.pe hs) fun σ H Q ⟨F, ρ, ω, L, R, h⟩ => part2x (k := fun x y ρ2 ω2 => ofR (gIx x y) ρ2 ω2) R h fun v w H2 L2 ρ2 ω2 x y R2 p q l => lf_ix Wx L2 [] σ H2 Q x y v w R2.al p.u q.u (leafX_ofR R2 l)⟩
/-- a slice with written ends -/
@[simp] noncomputable def xSl (xa : MX) (lo hi : Env' → Store → Res (Option Int)) : MX := fun n0 ρ ω => (xa n0 ρ ω).bind fun x ρ1 ω1 => match lo ρ1 ω1 with
  | .ok l => (match hi ρ1 ω1 with
    | .ok h => ofR (gSl x l h) ρ1 ω1
    | _ => .stuck)
  | _ => .stuck
theorem x_slice {lo hi : Option Expr} {p2 : Pos} {ml mh : Env' → Store → Res (Option Int)} (ha : DX X Wx a xa) (hl : DO X Wx lo ml) (hh : DO X Wx hi mh) : DX X Wx (.Subscript a (.Slice lo hi none p2) pos) (xSl xa ml mh) := by
  refine ⟨PE.weak (pe_slice sl_any ha.pe hl.po hh.po) fun σ H Q ⟨F, ρ, ω, L, R, h⟩ => ?_⟩
  refine part1x (k := fun x ρ1 ω1 => match ml ρ1 ω1 with
    | .ok l => (match mh ρ1 ω1 with
      | .ok h => ofR (gSl x l h) ρ1 ω1
      | _ => .stuck)
    | _ => .stuck) R h fun v H1 L1 ρ1 ω1 x R1 q l => ?_
  refine ⟨F, ρ1, ω1, L1, R1, ?_⟩
  cases z1 : ml ρ1 ω1 with
  | stuck => rw [z1] at l; exact l
  | err x => rw [z1] at l; exact l.elim
  | ok o1 =>
    rw [z1] at l
    intro H2 s2
    refine ⟨F, ρ1, ω1, L1, R1.same s2, ?_⟩
    cases z2 : mh ρ1 ω1 with
    | stuck => rw [z2] at l; exact l
    | err x => rw [z2] at l; exact l.elim
    | ok o2 =>
      rw [z2] at l
      intro H3 s3
      exact lf_sl (R1.al.same (s2.trans s3)) ((q.u).same (s2.trans s3)) ((leafX_ofR R1 l).to (s2.trans s3) subid fun _ _ q => q)
end
/-! ### arguments -/
inductive RA where
  | stuck
  | ok (ds : List D) (ρ : Env') (ω : Store)
  | er (e : Er) (ω : Store)
abbrev MXA := Nat → Env' → Store → RA
def RA.bind (r : RA) (k : List D → Env' → Store → RE) : RE := match r with
  | .stuck => .stuck
  | .er e ω => .er e ω
  | .ok d ρ ω => k d ρ ω
@[simp] theorem RA.bind_ok {d : List D} {ρ : Env'} {ω : Store} {k : List D → Env' → Store → RE} : (RA.ok d ρ ω).bind k = k d ρ ω := rfl
@[simp] theorem RA.bind_er {e : Er} {ω : Store} {k : List D → Env' → Store → RE} : (RA.er e ω).bind k = .er e ω := rfl
@[simp] theorem RA.bind_stuck {k : List D → Env' → Store → RE} : RA.stuck.bind k = .stuck := rfl
def LeafXA (W : Wd) (Wx : WX) (F : Fm) (σ : L2.St) (Q : List V → Hp → Prop) : RA → Prop
  | .stuck => False
  | .ok d ρ ω => ∀ v H L, Rel W F ρ ω L σ H → Reps W H (Fr L []) (obs L) d v → Q v H
  | .er e ω => ∀ cls dd ρ H L, Rel W F ρ ω L σ H → Exc W H e cls dd → Wx cls dd σ H
def tXA (W : Wd) (Wx : WX) (m : MXA) : TA := fun σ H Q => ∃ F ρ ω L, Rel W F ρ ω L σ H ∧ LeafXA W Wx F σ Q (m F.n0 ρ ω)
structure DXA (X : Cx) (Wx : WX) (es : List Expr) (m : MXA) : Prop where
  pa : PA X es (tXA (wd X) Wx m)
@[simp] def demA (B : List Nat) (ds : List D) (ρ : Env') : Env' := if D.frees ds = true then ρ else DL.demote B ρ
@[simp] def xaP (B : List Nat) (m : MA) : MXA := fun _ ρ ω => match m ρ ω with
  | .stuck => .stuck
  | .err e => .er e ω
  | .ok ds => .ok ds (demA B ds ρ) ω
@[simp] def xaCons (xa : MX) (xr : MXA) : MXA := fun n0 ρ ω => match xa n0 ρ ω with
  | .stuck => .stuck
  | .er e ω => .er e ω
  | .ok x ρ1 ω1 => (match xr n0 ρ1 ω1 with
    | .stuck => .stuck
    | .er e ω => .er e ω
    | .ok xs ρ2 ω2 => .ok (x :: xs) ρ2 ω2)
section
variable {W : Wd} {F : Fm} {ρ ρ' : Env'} {ω ω' : Store} {L L' : Lc} {σ σ' : L2.St} {H H' : Hp}
theorem Rel.loosenA (R : Rel W F ρ ω L σ H) {B : List Nat} {d : List D} {v : List V} (r : Reps W H (Fr L B) (obs L) d v) : ∃ L', Rel W F (demA B d ρ) ω L' σ H ∧ Reps W H (Fr L' []) (obs L') d v := by
  unfold demA
  split
  · rename_i f
    exact ⟨L, R, D.frees_rep d v f r⟩
  · exact ⟨_, R.demote B, Reps.mono (kp_dem (W := W)) d v r⟩
end
section
variable {X : Cx} {Wx : WX} {pos p p' apos : Pos} {a b c e o : Expr} {es : List Expr} {Ba Bb B : List Nat} {ma mb m : M} {xa xb : MX} {xr : MXA} {x y f : Str} {mr : MA}
theorem xa_pure (h : DA X Wx B es mr) : DXA X Wx es (xaP B mr) := ⟨PA.weak h.pa fun σ H Q ⟨F, ρ, ω, L, R, h⟩ => ⟨F, ρ, ω, L, R, by
  unfold xaP at h
  cases z : mr ρ ω with
  | stuck => rw [z] at h; exact h
  | err e => rw [z] at h; exact fun c d H' s x => h c d ρ H' L (R.same s) x
  | ok d =>
    rw [z] at h
    intro v H' s q
    obtain ⟨L', R', q'⟩ := (R.same s).loosenA q
    exact h v H' L' R' q'⟩⟩
theorem xa_nil : DXA X Wx [] (xaP [] aNil) := xa_pure a_nil
theorem xa_cons (ha : DX X Wx a xa) (hr : DXA X Wx es xr) (hs : starEach (a :: es) X.env = (false, eval a X.env) :: starEach es X.env := by rfl) : DXA X Wx (a :: es) (xaCons xa xr) :=
  ⟨PA.weak (pa_cons ha.pe hr.pa hs) fun σ H Q ⟨F, ρ, ω, L, R, h⟩ => by
    refine ⟨F.at L H, ρ, ω, L, R.sub, ?_⟩
    show LeafX _ _ _ _ _ (xa F.n0 ρ ω)
    unfold xaCons at h
    cases z : xa F.n0 ρ ω with
    | stuck => rw [z] at h; exact h
    | er e ω1 => rw [z] at h; exact fun c dd ρ1 H1 L1 R1 x => h c dd ρ1 H1 L1 (R.up R1) x
    | ok x ρ1 ω1 =>
      rw [z] at h
      intro v H1 L1 R1 q1
      have R1' := R.up R1
      refine ⟨F.at L1 H1, ρ1, ω1, L1, R1'.sub, ?_⟩
      show LeafXA _ _ _ _ _ (xr F.n0 ρ1 ω1)
      replace h : LeafXA (wd X) Wx F σ Q (match xr F.n0 ρ1 ω1 with
        | .stuck => .stuck
        | .er e ω => .er e ω
        | .ok xs ρ2 ω2 => .ok (x :: xs) ρ2 ω2) := h
      cases z2 : xr F.n0 ρ1 ω1 with
      | stuck => rw [z2] at h; exact h
      | er e ω1 => rw [z2] at h; exact fun c dd ρ1 H1 L1 R2 x => h c dd ρ1 H1 L1 (R1'.up R2) x
      | ok xs ρ2 ω2 =>
        rw [z2] at h
        exact fun vs H2 L2 R2 q2 => h (v :: vs) H2 L2 (R1'.up R2) ⟨v, vs, rfl, Rep.mono (R2.aft.kp R1'.alive) _ _ q1, q2⟩⟩
theorem leafXA_bind {W : Wd} {F : Fm} {ρ : Env'} {ω : Store} {L : Lc} {σ : L2.St} {H : Hp} {r : RA} {k : List D → Env' → Store → RE} {Q : VK} (R : Rel W F ρ ω L σ H) (h : LeafX W Wx F σ Q (r.bind k)) {P : List V → Hp → Prop}
    (hP : ∀ d ρ' ω' v H' L', r = .ok d ρ' ω' → Rel W (F.at L H) ρ' ω' L' σ H' → Reps W H' (Fr L' []) (obs L') d v → LeafX W Wx F σ Q (k d ρ' ω') → P v H') : LeafXA W Wx (F.at L H) σ P r := by
  cases r with
  | stuck => exact h
  | er e ω => exact fun c dd ρ H L R' x => h c dd ρ H L (R.up R') x
  | ok d ρ' ω' => exact fun v H' L' R' q => hP d ρ' ω' v H' L' rfl R' q h
theorem partAx {W : Wd} {F : Fm} {ρ : Env'} {ω : Store} {L : Lc} {σ : L2.St} {H : Hp} {Q : VK} {k : List D → Env' → Store → RE} (R : Rel W F ρ ω L σ H) (h : LeafX W Wx F σ Q ((xr F.n0 ρ ω).bind k)) {P : List V → Hp → Prop}
    (hP : ∀ v H1 L1 ρ1 ω1 x, Rel W F ρ1 ω1 L1 σ H1 → Aft F.n0 L H L1 H1 → Reps W H1 (Fr L1 []) (obs L1) x v → LeafX W Wx F σ Q (k x ρ1 ω1) → P v H1) : tXA W Wx xr σ H P :=
  ⟨F.at L H, ρ, ω, L, R.sub, leafXA_bind R h fun x ρ1 ω1 v H1 L1 _ R1 q1 l1 => hP v H1 L1 ρ1 ω1 x (R.up R1) R1.aft q1 l1⟩
@[simp] def xTup (xr : MXA) : MX := fun n0 ρ ω => (xr n0 ρ ω).bind fun ds ρ1 ω1 => if ds.length ≤ 1000 then .ok (.tup ds) ρ1 ω1 else .stuck
theorem x_tup {k} (h : DXA X Wx es xr) : DX X Wx (.Tuple es k pos) (xTup xr) :=
  ⟨PE.weak (pe_tup h.pa) fun σ H Q ⟨F, ρ, ω, L, R, h⟩ => partAx (k := fun ds ρ1 ω1 => if ds.length ≤ 1000 then .ok (.tup ds) ρ1 ω1 else .stuck) R h fun vs H1 L1 ρ1 ω1 ds R1 _ q l => by
    split at l
    · rename_i hl
      refine ⟨by rw [q.len, sizeLine_eq]; omega, fun z hz => ?_⟩
      have sm := same_upd (o := .tup vs) hz
      exact l _ _ L1 (R1.same sm) ⟨z, vs, rfl, upd_same, q.same sm⟩
    · exact l.elim⟩
@[simp] def xLst (xr : MXA) : MX := fun n0 ρ ω => (xr n0 ρ ω).bind fun ds ρ1 ω1 => if ds.length ≤ 1000 then .ok (.lst ds) ρ1 ω1 else .stuck
theorem x_lst (h : DXA X Wx es xr) : DX X Wx (.List es pos) (xLst xr) :=
  ⟨PE.weak (pe_lst h.pa) fun σ H Q ⟨F, ρ, ω, L, R, h⟩ => partAx (k := fun ds ρ1 ω1 => if ds.length ≤ 1000 then .ok (.lst ds) ρ1 ω1 else .stuck) R h fun vs H1 L1 ρ1 ω1 ds R1 _ q l => by
    split at l
    · rename_i hl
      refine ⟨by rw [q.len, sizeLine_eq]; omega, fun z hz => ?_⟩
      have sm := same_upd (o := .lst vs) hz
      exact l _ _ L1 (R1.same sm) ⟨z, vs, rfl, R1.al.fr hz [], upd_same, q.same sm⟩
    · exact l.elim⟩
/-! ### calls -/
@[simp] def rrX (ρ : Env') : RR → RE
  | .stuck => .stuck
  | .ok d ω => .ok d ρ ω
  | .er e ω => .er e ω
/-- what the callee needs, what the caller meets -/
theorem leafC_of {W : Wd} {F : Fm} {ρ : Env'} {ω : Store} {L : Lc} {σ : L2.St} {H : Hp} {Q : VK} {r : RR} (R : Rel W F ρ ω L σ H) (h : LeafX W Wx F σ Q (rrX ρ r)) : LeafC W ⟨F.n0, lcC L [], H⟩ Q (fun c d H => Wx c d σ H) r := by
  cases r with
  | stuck => exact h
  | er e ω' => exact fun c d H' L' R' _ x => h c d ρ H' _ (R.back R') x
  | ok d ω' => exact fun v H' L' R' _ q => h v H' _ (R.back R') (Rep.mono (kp_back R R') d v q)
@[simp] def xCall (n : Nat) (f : Fu) (xr : MXA) : MX := fun n0 ρ ω => (xr n0 ρ ω).bind fun ds ρ1 ω1 => if ds.length = n then rrX ρ1 (f n0 ds ω1) else .stuck
theorem spF_of {W : Wd} {F : Fm} {ρ : Env'} {ω : Store} {L : Lc} {σ : L2.St} {H : Hp} {Q : VK} {n : Nat} {f : Fu} {ds : List D} {vs : List V} (R : Rel W F ρ ω L σ H) (q : Reps W H (Fr L []) (obs L) ds vs) (h : LeafX W Wx F σ Q (if ds.length = n then rrX ρ (f F.n0 ds ω) else .stuck)) : spF W n f vs H Q (fun c d H => Wx c d σ H) := by
  split at h
  case isFalse => exact h.elim
  rename_i hds
  exact ⟨by rw [q.len, hds], F.n0, lcC L [], ω, ds, R.into [] F.n0 (fun _ _ h => h), lcC_no, Reps.mono (kp_call0) ds vs q, leafC_of R h⟩
theorem x_call {g : Fu} {k fa : Nat} {f : Addr} {fd : FuncData} {ps : List Str} (F : FnOk X.prog X.w X.K X.mg X.base (L2.CX X.prog X.w) k f fd ps (spF (wd X) ps.length g)) (hr : Room k X.A) (hg : Gl X x) (hm : X.mg x = some (.ref f)) (hk : PySem.W.keepIn X.K (.ref f) = true) (hb : Binds X.K fd ps []) (tk : Takes X Wx)
    (ha : DXA X Wx (e :: es) xr) (hdb : (x == ("__debug__" : Str)) = false := by decide) (he : starEach (e :: es) X.env = (false, eval e X.env) :: starEach es X.env := by rfl) (hpl : (backTo pos (starEach es X.env)).any (·.1) = false := by rfl) :
    DX X Wx (.Call (.Name x p) (e :: es) [] pos) (xCall ps.length g xr) :=
  ⟨PE.weak (pe_callSD F hr hg hm hk hb .nil (passAt tk) ha.pa hdb he hpl) fun σ H Q ⟨F0, ρ, ω, L, R, h⟩ => by
    refine partAx (k := fun ds ρ1 ω1 => if ds.length = ps.length then rrX ρ1 (g F0.n0 ds ω1) else .stuck) R h fun vs H1 L1 ρ1 ω1 ds R1 _ q l => ?_
    rw [List.append_nil]
    exact spF_of R1 q l⟩
theorem x_callF {j k n : Nat} {g : Fu} (c : Fc X.prog X.w X.K X.mg X.base j x n g) (hr : Room k X.A) (tk : Takes X Wx) (ha : DXA X Wx (e :: es) xr) (hg : Gl X x := by rfl) (hj : j ≤ k := by decide) (hdb : (x == ("__debug__" : Str)) = false := by decide)
    (he : starEach (e :: es) X.env = (false, eval e X.env) :: starEach es X.env := by rfl) (hpl : (backTo pos (starEach es X.env)).any (·.1) = false := by rfl) : DX X Wx (.Call (.Name x p) (e :: es) [] pos) (xCall n g xr) := by
  obtain ⟨f, fd, ps, h1, h2, h3, rfl, h5⟩ := c.ex
  exact x_call (fa := 0) (h5.mono hj) hr hg h1 h2 h3 tk ha hdb he hpl
end
/-! ### tests -/
def LeafXB (W : Wd) (Wx : WX) (F : Fm) (σ : L2.St) (Q : Bool → Hp → Prop) : RE → Prop
  | .ok (.bl b) ρ ω => ∀ H L, Rel W F ρ ω L σ H → Q b H
  | .er e ω => ∀ cls dd ρ H L, Rel W F ρ ω L σ H → Exc W H e cls dd → Wx cls dd σ H
  | _ => False
def tXB (W : Wd) (Wx : WX) (m : MX) : TT := fun σ H Q => ∃ F ρ ω L, Rel W F ρ ω L σ H ∧ LeafXB W Wx F σ Q (m F.n0 ρ ω)
structure DXB (X : Cx) (Wx : WX) (e : Expr) (m : MX) : Prop where
  pt : PT X e (tXB (wd X) Wx m)
structure DXW (X : Cx) (Wx : WX) (e : Expr) (m : MX) : Prop where
  pw : PW X e (tXB (wd X) Wx m)
@[simp] def xbNot (xa : MX) : MX := fun n0 ρ ω => (xa n0 ρ ω).bind fun x ρ1 ω1 => match x with
  | .bl b => .ok (.bl (!b)) ρ1 ω1
  | _ => .stuck
@[simp] def xbAnd (xa xb : MX) : MX := fun n0 ρ ω => (xa n0 ρ ω).bind fun x ρ1 ω1 => match x with
  | .bl true => xb n0 ρ1 ω1
  | .bl false => .ok (.bl false) ρ1 ω1
  | _ => .stuck
@[simp] def xbOr (xa xb : MX) : MX := fun n0 ρ ω => (xa n0 ρ ω).bind fun x ρ1 ω1 => match x with
  | .bl true => .ok (.bl true) ρ1 ω1
  | .bl false => xb n0 ρ1 ω1
  | _ => .stuck
@[simp] def xbP (m : Env' → Store → Res Bool) : MX := fun _ ρ ω => match m ρ ω with
  | .stuck => .stuck
  | .err e => .er e ω
  | .ok b => .ok (.bl b) ρ ω
section
variable {X : Cx} {Wx : WX} {pos p p' apos : Pos} {a b c e o : Expr} {es rest : List Expr} {Ba Bb B : List Nat} {ma mb m : M} {xa xb : MX} {xr : MXA} {x y f : Str} {mr : MA}
theorem xb_pure {m : Env' → Store → Res Bool} (h : DB X Wx e m) : DXB X Wx e (xbP m) := ⟨PT.weak h.pt fun σ H Q ⟨F, ρ, ω, L, R, h⟩ => ⟨F, ρ, ω, L, R, by
  unfold xbP at h
  cases z : m ρ ω with
  | stuck => rw [z] at h; exact h
  | err e => rw [z] at h; exact fun c d H' s x => h c d ρ H' L (R.same s) x
  | ok d => rw [z] at h; exact fun H' s => h H' L (R.same s)⟩⟩
theorem leafXB_bind {W : Wd} {F : Fm} {ρ : Env'} {ω : Store} {L : Lc} {σ : L2.St} {H : Hp} {r : RE} {k : D → Env' → Store → RE} {Q : Bool → Hp → Prop} (R : Rel W F ρ ω L σ H) (h : LeafXB W Wx F σ Q (r.bind k)) (hk : ∀ d ρ ω, (∀ b, d ≠ .bl b) → k d ρ ω = .stuck) {P : Bool → Hp → Prop}
    (hP : ∀ b ρ' ω' H' L', r = .ok (.bl b) ρ' ω' → Rel W (F.at L H) ρ' ω' L' σ H' → LeafXB W Wx F σ Q (k (.bl b) ρ' ω') → P b H') : LeafXB W Wx (F.at L H) σ P r := by
  cases r with
  | stuck => exact h
  | er e ω => exact fun c dd ρ H L R' x => h c dd ρ H L (R.up R') x
  | ok d ρ' ω' =>
    cases d with
    | bl b => exact fun H' L' R' => hP b ρ' ω' H' L' rfl R' h
    | _ =>
      replace h : LeafXB W Wx F σ Q (k _ ρ' ω') := h
      rw [hk _ _ _ (fun b z => by cases z)] at h
      exact h.elim
theorem xb_val (ha : DX X Wx e xa) (he : ∀ whole, isTrue e X.env whole = (do let v ← whole; standAt e.pos; holding [v] (truthy v)) := by intro _; rfl) : DXB X Wx e xa :=
  ⟨PT.weak (pt_val ha.pe he) fun σ H Q ⟨F, ρ, ω, L, R, h⟩ => ⟨F, ρ, ω, L, R, by
    cases z : xa F.n0 ρ ω with
    | stuck => rw [z] at h; exact h
    | er e ω => rw [z] at h; exact h
    | ok d ρ' ω' =>
      rw [z] at h
      cases d with
      | bl k => exact fun v H' L' R' r => ⟨k, r, h H' L' R'⟩
      | _ => exact h.elim⟩⟩
theorem xb_not (ha : DXB X Wx a xa) : DXB X Wx (.UnaryOp .Not a pos) (xbNot xa) :=
  ⟨PT.weak (pt_not ha.pt) fun σ H Q ⟨F, ρ, ω, L, R, h⟩ => ⟨F.at L H, ρ, ω, L, R.sub, by
    refine leafXB_bind (k := fun x ρ1 ω1 => match x with
      | .bl b => .ok (.bl (!b)) ρ1 ω1
      | _ => .stuck) R h (fun d ρ ω hd => by cases d <;> first | rfl | exact absurd rfl (hd _)) fun b ρ' ω' H' L' _ R' l => l H' L' (R.up R')⟩⟩
theorem xw_and1 (ha : DXB X Wx a xa) : DXW X Wx (.BoolOp .And [a] pos) xa := ⟨pw_and1 ha.pt⟩
theorem xw_or1 (ha : DXB X Wx a xa) : DXW X Wx (.BoolOp .Or [a] pos) xa := ⟨pw_or1 ha.pt⟩
theorem DXW.db {e : Expr} {m : MX} (h : DXW X Wx e m) : DXB X Wx e m := ⟨h.pw.pt⟩
theorem PW.weakX {e : Expr} {t t' : TT} (h : PW X e t) (w : ∀ σ H Q, t' σ H Q → t σ H Q) : PW X e t' := ⟨fun wh pins s σ H Q I q => h.run wh pins s σ H Q I (w σ H Q q)⟩
theorem xw_and (ha : DXB X Wx a xa) (hb : DXW X Wx (.BoolOp .And (b :: rest) pos) xb) : DXW X Wx (.BoolOp .And (a :: b :: rest) pos) (xbAnd xa xb) :=
  ⟨PW.weakX (pw_and ha.pt hb.pw) fun σ H Q ⟨F, ρ, ω, L, R, h⟩ => ⟨F.at L H, ρ, ω, L, R.sub, by
    refine leafXB_bind (k := fun x ρ1 ω1 => match x with
      | .bl true => xb F.n0 ρ1 ω1
      | .bl false => .ok (.bl false) ρ1 ω1
      | _ => .stuck) R h (fun d ρ ω hd => by cases d <;> first | rfl | exact absurd rfl (hd _)) fun b ρ' ω' H' L' _ R' l => ?_
    cases b with
    | true => exact ⟨F, ρ', ω', L', R.up R', l⟩
    | false => exact l H' L' (R.up R')⟩⟩
theorem xw_or (ha : DXB X Wx a xa) (hb : DXW X Wx (.BoolOp .Or (b :: rest) pos) xb) : DXW X Wx (.BoolOp .Or (a :: b :: rest) pos) (xbOr xa xb) :=
  ⟨PW.weakX (pw_or ha.pt hb.pw) fun σ H Q ⟨F, ρ, ω, L, R, h⟩ => ⟨F.at L H, ρ, ω, L, R.sub, by
    refine leafXB_bind (k := fun x ρ1 ω1 => match x with
      | .bl true => .ok (.bl true) ρ1 ω1
      | .bl false => xb F.n0 ρ1 ω1
      | _ => .stuck) R h (fun d ρ ω hd => by cases d <;> first | rfl | exact absurd rfl (hd _)) fun b ρ' ω' H' L' _ R' l => ?_
    cases b with
    | true => exact l H' L' (R.up R')
    | false => exact ⟨F, ρ', ω', L', R.up R', l⟩⟩⟩
end
/-! ### statements over them -/
section
variable {X : Cx} {Wx : WX} {pos p p' apos : Pos} {a b c e o tg : Expr} {es : List Expr} {sts rest : List Stmt} {Ba Bb B : List Nat} {ma mb m : M} {xa xb : MX} {xr : MXA} {x y f : Str} {mr : MA} {i : Nat} {t u : T}
@[simp] def ofX (r : RE) (k : D → Env' → Store → RS) : RS := match r with
  | .stuck => .stuck
  | .er e ω => .er e ω
  | .ok d ρ ω => k d ρ ω
theorem leafSX_bind {W : Wd} {F : Fm} {ρ : Env'} {ω : Store} {L : Lc} {σ : L2.St} {H : Hp} {G : Ends} {r : RE} {k : D → Env' → Store → RS} (R : Rel W F ρ ω L σ H) (h : LeafS W Wx F G (ofX r k)) {P : VK}
    (hP : ∀ d ρ' ω' v H' L', r = .ok d ρ' ω' → Rel W F ρ' ω' L' σ H' → Rep W H' (Fr L' []) (obs L') d v → LeafS W Wx F G (k d ρ' ω') → P v H') : LeafX W Wx F σ P r := by
  cases r with
  | stuck => exact h
  | er e ω => exact fun c dd ρ H L R' x => h c dd ρ σ H L R' x
  | ok d ρ' ω' => exact fun v H' L' R' q => hP d ρ' ω' v H' L' rfl R' q h
@[simp] def sRetX (m : MX) : T := fun n0 ρ ω => ofX (m n0 ρ ω) fun d _ ω => .rt d ω
theorem sx_ret (he : DX X Wx e xa) : DS X Wx (.Return (some e) pos) (sRetX xa) :=
  ⟨PS.weak (ps_ret he.pe) fun G σ H ⟨F, ρ, ω, L, R, h⟩ => ⟨F, ρ, ω, L, R, leafSX_bind (k := fun d _ ω => .rt d ω) R h fun d ρ' ω' v H' L' _ R' q l => l v ρ' σ H' L' R' (Rep.mono (Kp.sub fun a u f _ => fr_frA f) d v q)⟩⟩
@[simp] def sDropX (m : MX) : T := fun n0 ρ ω => ofX (m n0 ρ ω) fun _ ρ ω => .nx ρ ω
theorem sx_expr (he : DX X Wx e xa) (hs : swapsWith e none pos.line X.env = pure false := by rfl) : DS X Wx (.Expr e pos) (sDropX xa) :=
  ⟨PS.weak (ps_expr he.pe hs) fun G σ H ⟨F, ρ, ω, L, R, h⟩ => ⟨F, ρ, ω, L, R, leafSX_bind (k := fun _ ρ ω => .nx ρ ω) R h fun d ρ' ω' v H' L' _ R' q l => l σ H' L' R'⟩⟩
@[simp] def sSetX (i : Nat) (m : MX) : T := fun n0 ρ ω => ofX (m n0 ρ ω) fun d ρ ω => if i < ρ.length then .nx (ρ.set i (.val d)) ω else .stuck
theorem sx_set (hN : X.N.Nodup) (hi : X.N[i]? = some x) (hx : Loc X.env.scope x) (he : DX X Wx e xa) (hs : swapsWith e (some (.Name x p)) pos.line X.env = pure false := by rfl) (hf : X.fn x = true ∨ X.env.scope.names.lookup x = some .local := by first | exact .inl rfl | exact .inr rfl | assumption) :
    DS X Wx (.Assign [.Name x p] e pos) (sSetX i xa) :=
  ⟨PS.weak (ps_set hN hi hx he.pe hs hf) fun G σ H ⟨F, ρ, ω, L, R, h⟩ => ⟨F, ρ, ω, L, R, leafSX_bind (k := fun d ρ ω => if i < ρ.length then .nx (ρ.set i (.val d)) ω else .stuck) R h fun d ρ' ω' v H' L' _ R' q l => by
    split at l
    · rename_i hl
      exact l _ H' _ (R'.putVal hl q)
    · exact l.elim⟩⟩
@[simp] def sUnpX (m : MX) (mt : D → Env' → Option Env') : T := fun n0 ρ ω => ofX (m n0 ρ ω) fun d ρ ω => match mt d ρ with
  | some ρ' => .nx ρ' ω
  | none => .stuck
theorem sx_unp {mt : D → Env' → Option Env'} (he : DX X Wx e xa) (hg : DG X tg mt) (hs : swapsWithSole [tg] e pos.line X.env = pure false := by rfl) (hw : swappedStores [tg] e X.env = pure none := by rfl) (h1 : (assignEach [tg] X.env).map (·.2) = [assign tg X.env] := by rfl) :
    DS X Wx (.Assign [tg] e pos) (sUnpX xa mt) :=
  ⟨PS.weak (ps_asg he.pe hg.pg hs hw h1) fun G σ H ⟨F, ρ, ω, L, R, h⟩ => ⟨F, ρ, ω, L, R, leafSX_bind (k := fun d ρ ω => match mt d ρ with
      | some ρ' => .nx ρ' ω
      | none => .stuck) R h fun d ρ' ω' v H' L' _ R' q l => by
    refine ⟨F, _, ω', L', d, R', q, ?_⟩
    cases z : mt d ρ' with
    | none => rw [z] at l; exact l.elim
    | some ρ2 => rw [z] at l; exact fun σ' L2 R2 => l σ' H' L2 R2⟩⟩
@[simp] def sIfX (m : MX) (t u : T) : T := fun n0 ρ ω => match m n0 ρ ω with
  | .er e ω => .er e ω
  | .ok (.bl true) ρ ω => t n0 ρ ω
  | .ok (.bl false) ρ ω => u n0 ρ ω
  | _ => .stuck
theorem sx_if (hc : DXB X Wx c xa) (ha : DSs X Wx sts t) (hb : DSs X Wx rest u) : DS X Wx (.If c sts rest pos) (sIfX xa t u) :=
  ⟨PS.weak (ps_if hc.pt ha.pss hb.pss) fun G σ H ⟨F, ρ, ω, L, R, h⟩ => ⟨F, ρ, ω, L, R, by
    unfold sIfX at h
    cases z : xa F.n0 ρ ω with
    | stuck => rw [z] at h; exact h
    | er e ω' => rw [z] at h; exact fun c d ρ' H' L' R' x => h c d ρ' σ H' L' R' x
    | ok d ρ' ω' =>
      rw [z] at h
      cases d with
      | bl k =>
        cases k with
        | true => exact fun H' L' R' => ⟨F, ρ', ω', L', R', h⟩
        | false => exact fun H' L' R' => ⟨F, ρ', ω', L', R', h⟩
      | _ => exact h.elim⟩⟩
end
end DL
namespace DL
open PySem PySem.Spec PySem.Calls PyProof.Rows L2

/-! ### s.upper() -/
section
variable {X : Cx} {Wx : WX} {pos p apos : Pos} {a b e : Expr} {Ba Bb B : List Nat} {ma mb m : M} {x : Str} {st : Stmt} {sts rest : List Stmt} {t u : T} {i : Nat}
@[simp] noncomputable def gUpper : D → Res D
  | .str s => @ite _ (s.length ≤ 1000000) (Classical.propDecidable _) (.ok (.str (Txt.upper s))) .stuck
  | _ => .stuck
theorem d_upper (ha : DU X Wx Ba a ma) (hbase : attributeBase a "upper" X.env (eval a X.env) = eval a X.env := by rfl) (hline : (apos.endLine == pos.line) = true := by rfl) :
    DP X Wx Ba (.Call (.Attribute a "upper" apos) [] [] pos) (m1 ma gUpper) :=
  ⟨PE.weak (pe_upper ha.pe hbase hline) fun σ H Q ⟨F, ρ, ω, L, R, h⟩ => part1 (k := gUpper) subid R h fun v H1 x s R1 q l => by
    unfold gUpper at l
    split at l
    · split at l
      · rename_i s hl
        exact ⟨⟨_, q⟩, _, q, rfl, by omega, l.ret rfl⟩
      · exact l.elim
    · exact l.elim⟩
/-! ### where a token is out -/
structure DPT (X : Cx) (Wx : WX) (B : List Nat) (e : Expr) (m : M) : Prop where
  pet : PET X e (tP (wd X) Wx B m)
structure DUT (X : Cx) (Wx : WX) (B : List Nat) (e : Expr) (m : M) : Prop where
  pet : PET X e (tU (wd X) Wx B m)
structure DST (X : Cx) (Wx : WX) (st : Stmt) (m : T) : Prop where
  pst : PST X st (tS (wd X) Wx m)
structure DSsT (X : Cx) (Wx : WX) (st : List Stmt) (m : T) : Prop where
  psst : PSsT X st (tS (wd X) Wx m)
theorem PET.weak {t t' : TE} (h : PET X e t) (w : ∀ σ H Q, t' σ H Q → t σ H Q) : PET X e t' := fun pins s σ H Q h0 I q => h pins s σ H Q h0 I (w σ H Q q)
theorem PST.weak {t t' : TS} (h : PST X st t) (w : ∀ D σ H, t' D σ H → t D σ H) : PST X st t' := fun pins s σ H D h0 I q => h pins s σ H D h0 I (w D σ H q)
theorem PSsT.weak {t t' : TS} (h : PSsT X sts t) (w : ∀ D σ H, t' D σ H → t D σ H) : PSsT X sts t' := fun pins s σ H D h0 I q => h pins s σ H D h0 I (w D σ H q)
theorem DS.tk (h : DS X Wx st t) : DST X Wx st t := ⟨PST.of h.ps⟩
theorem DSs.tk (h : DSs X Wx sts t) : DSsT X Wx sts t := ⟨PSsT.of h.pss⟩
theorem DU.tk (h : DU X Wx B e m) : DUT X Wx B e m := ⟨CwR.PET.of h.pe⟩
theorem DP.tk (h : DP X Wx B e m) : DPT X Wx B e m := ⟨CwR.PET.of h.pe⟩
theorem DPT.uu (h : DPT X Wx B e m) : DUT X Wx B e m := ⟨PET.weak h.pet fun σ H Q ⟨F, ρ, ω, L, R, h⟩ => ⟨F, ρ, ω, L, R, by
  cases z : m ρ ω with
  | stuck => rw [z] at h; exact h
  | err x => rw [z] at h; exact h
  | ok x => rw [z] at h; exact fun v H1 s r => h v H1 s r.u⟩⟩
theorem sT_cons (h1 : DST X Wx st t) (h2 : DSsT X Wx rest u) : DSsT X Wx (st :: rest) (sq t u) :=
  ⟨PSsT.weak (psst_cons h1.pst h2.psst) fun G σ H ⟨F, ρ, ω, L, R, h⟩ => ⟨F, ρ, ω, L, R, by
    unfold sq at h
    cases z : t F.n0 ρ ω with
    | stuck => rw [z] at h; exact h
    | nx ρ' ω' => rw [z] at h; exact fun σ' H' L' R' => ⟨F, ρ', ω', L', R', h⟩
    | rt d ω' => rw [z] at h; exact h
    | bk ρ' ω' => rw [z] at h; exact h
    | ct ρ' ω' => rw [z] at h; exact h
    | er e ω' => rw [z] at h; exact h⟩⟩
theorem dT_add (ha : DUT X Wx Ba a ma) (hb : DUT X Wx Bb b mb) : DPT X Wx (Ba ++ Bb) (.BinOp a .Add b pos) (m2 ma mb gAdd) :=
  ⟨PET.weak (CwR.pet_op op_add4 ha.pet hb.pet) fun σ H Q ⟨F, ρ, ω, L, R, h⟩ => part2 subl subr R h fun v w H1 x y s R1 p q l => lf_add Wx L _ σ H1 Q x y v w R1.al p q l⟩
noncomputable def gRepl (y z : Str) : D → Res D
  | .str s => @ite _ (s.length + (s.length + 1) * z.length ≤ 16777216) (Classical.propDecidable _) (.ok (.str (Txt.replace s y z))) .stuck
  | _ => .stuck
theorem dT_repl {y z : Str} {j k : Nat} {c0 c1 : Pos} (ha : DU X Wx Ba a ma) (hyz : (y == z) = false := by decide)
    (hst : starEach [.Constant (.str y) j c0, .Constant (.str z) k c1] X.env = [(false, eval (.Constant (.str y) j c0) X.env), (false, eval (.Constant (.str z) k c1) X.env)] := by rfl)
    (hbase : attributeBase a "replace" X.env (eval a X.env) = eval a X.env := by rfl) (hline : (apos.endLine == pos.line) = true := by rfl) :
    DPT X Wx Ba (.Call (.Attribute a "replace" apos) [.Constant (.str y) j c0, .Constant (.str z) k c1] [] pos) (m1 ma (gRepl y z)) :=
  ⟨PET.weak (CwR.pet_replC ha.pe hyz hst hbase hline) fun σ H Q ⟨F, ρ, ω, L, R, h⟩ => part1 (k := gRepl y z) subid R h fun v H1 x s R1 q l => by
    unfold gRepl at l
    split at l
    · split at l
      · rename_i s hl
        exact ⟨_, q, hl, l.ret rfl⟩
      · exact l.elim
    · exact l.elim⟩
theorem pet_bm {o : Expr} {es : List Expr} {T : String} {name : Str} {id : String} {r : V → List V → Hp → VK → Prop} {to : TE} {ta : TA} {cpos : Pos} (pa : PlainAttrs T) (slot : Slot T name id) (hty : typeOf (.builtin id) = pure (.type "method_descriptor")) (hm : MtR X id r) (ho : PE X o to) (ha : PAT X (e :: es) ta)
    (hbase : attributeBase o name X.env (eval o X.env) = eval o X.env := by rfl)
    (hfew : ((backTo cpos (starEach (e :: es) X.env)).all (fun x => !x.1) && (backToKw cpos (keywordEach [] X.env)).all (fun x => x.1.isSome)
      && decide ((e :: es).length + ([] : List Keyword).length + (if ([] : List Keyword).isEmpty then 0 else 1) < 30)) = true := by rfl)
    (hline : (apos.endLine == cpos.line) = true := by rfl) (hs : starEach (e :: es) X.env = (false, eval e X.env) :: starEach es X.env := by rfl) (hplain : (backTo cpos (starEach es X.env)).any (·.1) = false := by rfl) :
    PET X (.Call (.Attribute o name apos) (e :: es) [] cpos) (tBM X.K T r to ta) := by
  intro pins s σ H Q h0 I h
  refine wpAny_Call_method_late hbase hfew hline rfl (wpAny_mono (PySem.wpAny_toks (ho.run pins s σ H _ I h)) (fun v s1 q => ?_) fun _ _ z => z.2)
  obtain ⟨hk, x, H1, I1, r1, ty, q1⟩ := q
  obtain ⟨h1, h2⟩ := tyV_is I1 r1 ty
  refine ⟨T, id, pa, slot, hty, h1, h2, ?_⟩
  have hA := ha cpos pins s1 σ H1 _ (Nat.le_trans h0 hk) I1 q1
  rw [hs] at hA ⊢
  refine Calls.callWith_builtin (by show (false || (backTo cpos (starEach es X.env)).any (·.1)) = false; rw [hplain] <;> rfl) (Calls.evalArgs_plain ?_)
  exact thn hA fun us s2 ⟨vs, H2, I2, r2, q2⟩ => hm pins s2 σ H2 x vs v us Q I2 r1 r2 q2
theorem pst_expr {te : TE} (he : PET X e te) (hs : swapsWith e none pos.line X.env = pure false := by rfl) : PST X (.Expr e pos) (tDrop te) := by
  intro pins s σ H D h0 I h
  exact wpAny_Expr_any (thn (he pins s σ H _ h0 I h) fun v s1 ⟨x, H1, I1, r1, q1⟩ => ⟨σ, H1, I1, q1⟩) I.quiet hs
theorem sT_app {cpos : Pos} (i : Nat) (he : DPT X Wx B e m) (hN : X.N[i]? = some x := by rfl) (hv : Vis X.env.scope x := by first | exact Or.inl rfl | exact Or.inr (Or.inl rfl) | exact Or.inr (Or.inr rfl)) (hd : (x == ("__debug__" : Str)) = false := by decide)
    (hcd : (x == ("__classdict__" : Str)) = false := by decide)
    (hbase : attributeBase (.Name x p) "append" X.env (eval (.Name x p) X.env) = eval (.Name x p) X.env := by rfl)
    (hfew : ((backTo cpos (starEach (e :: []) X.env)).all (fun x => !x.1) && (backToKw cpos (keywordEach [] X.env)).all (fun x => x.1.isSome)
      && decide ((e :: ([] : List Expr)).length + ([] : List Keyword).length + (if ([] : List Keyword).isEmpty then 0 else 1) < 30)) = true := by rfl)
    (hline : (apos.endLine == cpos.line) = true := by rfl) (hs : starEach (e :: []) X.env = (false, eval e X.env) :: starEach [] X.env := by rfl) (hplain : (backTo cpos (starEach [] X.env)).any (·.1) = false := by rfl)
    (hsw : swapsWith (.Call (.Attribute (.Name x p) "append" apos) [e] [] cpos) none pos.line X.env = pure false := by rfl) :
    DST X Wx (.Expr (.Call (.Attribute (.Name x p) "append" apos) [e] [] cpos) pos) (sApp i B m) :=
  ⟨PST.weak (pst_expr (pet_bm PySem.F.plainAttrs_list PySem.F.slot_list_append PySem.F.type_list_append mt_append (pe_var (i := i) hN hv hd hcd) (pat_cons he.pet pat_nil hs) hbase hfew hline hs hplain) hsw) fun G σ H ⟨F, ρ, ω, L, R, h⟩ => by
    unfold sApp at h
    split at h
    · rename_i xs0 e0
      obtain ⟨a, e1, l, vs0, h1, _⟩ := R.sl i _ e0
      refine ⟨.ref a, slot_at e1, .inl ⟨rfl, vs0, SqL.of h1⟩, F, ρ, ω, L, R, leafS_bind (k := fun d => match (dem B d ρ)[i]? with
    | some (.own (.lst xs)) => @ite _ (xs.length < 1000000) (Classical.propDecidable _) (.nx ((dem B d ρ).set i (.own (.lst (xs ++ [d])))) ω) .stuck
    | _ => .stuck) R h fun d v H1 _ s R1 q lf => ?_⟩
      obtain ⟨L2, R2, q2⟩ := R1.loosen q
      split at lf
      · rename_i xs ei
        split at lf
        · rename_i hlen
          obtain ⟨b, f1, l2, vs, h2, r2⟩ := R2.sl i _ ei
          have eb : b = a := by
            have := f1.symm.trans e1
            exact V.ref.inj (Option.some.inj this)
          subst eb
          refine ⟨b, vs, v, rfl, rfl, h2, by rw [r2.len, sizeLine_eq]; omega, lf _ _ L2 (R2.pokeS l2 rfl f1 ⟨vs ++ [v], upd_same, ?_⟩)⟩
          exact (Reps.mono (kp_poke (B := []) R2 l2 (fun _ => .inr rfl) rfl) _ _ r2).app (Reps.one (Rep.mono (kp_poke (B := []) R2 l2 (fun _ => .inr rfl) rfl) _ _ q2))
        · exact lf.elim
      · exact lf.elim
    · exact h.elim⟩
/-- name = e.split(a written text): behind it a token is out -/
theorem s_splitT {c : Str} {j : Nat} {cp pn : Pos} (hN : X.N.Nodup) (hi : X.N[i]? = some x) (hx : Loc X.env.scope x) (ha : DU X Wx Ba a ma) (hr : DSsT X Wx rest u)
    (hs : starEach [.Constant (.str c) j cp] X.env = [(false, eval (.Constant (.str c) j cp) X.env)] := by rfl) (hbase : attributeBase a "split" X.env (eval a X.env) = eval a X.env := by rfl) (hline : (apos.endLine == pos.line) = true := by rfl)
    (hsw : swapsWith (.Call (.Attribute a "split" apos) [.Constant (.str c) j cp] [] pos) (some (.Name x pn)) p.line X.env = pure false := by rfl)
    (hf : X.fn x = true ∨ X.env.scope.names.lookup x = some .local := by first | exact .inl rfl | exact .inr rfl | assumption) :
    DSs X Wx (.Assign [.Name x pn] (.Call (.Attribute a "split" apos) [.Constant (.str c) j cp] [] pos) p :: rest) (sq (sSet i Ba (m1 ma fun x => gSplit x (.str c))) u) := by
  refine ⟨⟨fun pins s σ H G I ⟨F, ρ, ω, L, R, h⟩ => ?_⟩⟩
  refine wpAny_execs_cons (wpAny_Assign_Name ?_ hsw)
  refine PySem.Call_method1 hbase hs hline (thn (ha.pe.run pins s σ H (fun x H1 => ∃ a0, x = .str a0 ∧ (c.length == 0) = false ∧ a0.length + 2 ≤ sizeLine ∧ ∀ z, H1 z = none → ∃ ρ' L', Rel (wd X) F ρ' ω L' (σ.set i (some (.ref z))) (upd H1 z (.lst ((Txt.split a0 c).map V.str))) ∧ LeafS (wd X) Wx F G (u F.n0 ρ' ω)) I ?_) fun v s1 ⟨x', H1, I1, r1, a0, e1, hc, hl, fin⟩ => ?_)
  · refine ⟨F, ρ, ω, L, R, ?_⟩
    unfold sq sSet at h
    cases z : ma ρ ω with
    | stuck => simp only [m1, z, Res.bind, ofE] at h; exact h
    | err e =>
      simp only [m1, z, Res.bind, ofE] at h
      exact fun c' d H' s' x => h c' d ρ σ H' L (R.same s') x
    | ok d =>
      cases d with
      | str a0 =>
        intro v H' s' q
        have e1 : v = .str a0 := q
        subst e1
        have h : LeafS (wd X) Wx F G (match ofE (gSplit (.str a0) (.str c)) ω (fun d => if i < ρ.length then RS.nx ((dem Ba d ρ).set i (.val d)) ω else .stuck) with
          | .nx ρ' ω' => u F.n0 ρ' ω'
          | r => r) := by
            have h2 := h
            simp only [m1, z, Res.bind] at h2
            exact h2
        unfold gSplit at h
        dsimp only at h
        by_cases hh : (c.length == 0) = false ∧ a0.length + 2 ≤ 16777216
        · rw [@if_pos _ (Classical.propDecidable _) hh] at h
          refine ⟨a0, rfl, hh.1, by rw [sizeLine_eq]; exact hh.2, fun z hz => ?_⟩
          have h : LeafS (wd X) Wx F G (match (if i < ρ.length then RS.nx ((dem Ba (.lst ((Txt.split a0 c).map .str)) ρ).set i (.val (.lst ((Txt.split a0 c).map .str)))) ω else .stuck) with
            | .nx ρ' ω' => u F.n0 ρ' ω'
            | r => r) := h
          by_cases hi2 : i < ρ.length
          · rw [if_pos hi2] at h
            have R' := R.same s'
            have sm := same_upd (o := .lst ((Txt.split a0 c).map V.str)) hz
            obtain ⟨L2, R2⟩ := (R'.same sm).store (B := Ba) (d := .lst ((Txt.split a0 c).map .str)) (v := .ref z) hi2 ⟨z, _, rfl, R'.al.fr hz _, upd_same, Reps.ofStrs _⟩
            exact ⟨_, L2, R2, h⟩
          · rw [if_neg hi2] at h
            exact h.elim
        · rw [@if_neg _ (Classical.propDecidable _) hh] at h
          exact h.elim
      | _ =>
        simp only [m1, z, Res.bind, ofE, gSplit] at h
        exact h.elim
  · subst e1
    obtain ⟨t, rfl⟩ := _root_.id r1
    refine ⟨"str", _, PySem.F.plainAttrs_str, PySem.F.slot_str_split, PySem.F.type_str_split, typeIs_str _ _ _, (fun _ e => nomatch e), Calls.callWith_builtin rfl (Calls.evalArgs_plain (Calls.spliced_cons (Calls.Constant_str (Calls.spliced_nil ?_))))⟩
    have I2 : Inv X pins σ H1 { s1 with toks := s1.toks + 1 } := I1.tok _
    refine wpAny_mono (PySem.wpAny_toks (mt_split (X := X) pins { s1 with toks := s1.toks + 1 } σ H1 (.str a0) [.str c] (.str a0 t) [.str c s1.toks] (fun x H2 => ∃ z ρ' L', x = .ref z ∧ Rel (wd X) F ρ' ω L' (σ.set i (some (.ref z))) H2 ∧ LeafS (wd X) Wx F G (u F.n0 ρ' ω)) I2 ⟨t, rfl⟩ (.cons ⟨_, rfl⟩ .nil) ⟨a0, c, rfl, rfl, hc, hl, fun z hz => ?_⟩)) (fun v s2 q => ?_) fun _ _ z => z.2
    · obtain ⟨ρ', L', R2, h2⟩ := fin z hz
      exact ⟨z, ρ', L', rfl, R2, h2⟩
    · obtain ⟨hk, x2, H2, I3, r3, z, ρ', L', ez, R2, h2⟩ := q
      have hk : s1.toks + 1 ≤ s2.toks := hk
      refine wpAny_mono (PySem.wpAny_toks (store_ok (Q := fun _ s3 => Inv X pins (σ.set i (some x2)) H2 s3) I3 hN hi hx r3 (fun s3 I4 => I4) hf)) (fun _ s3 q => ?_) fun _ _ z => z.2
      obtain ⟨hk2, I4⟩ := q
      rw [ez] at I4
      exact hr.psst pins s3 _ H2 G (by omega) I4 ⟨F, ρ', ω, L', R2, h2⟩
/-! ### xs + ys, new -/
noncomputable def gCat : D → D → Res D
  | .lst xs, .lst ys => @ite _ (xs.length + ys.length ≤ 16777216) (Classical.propDecidable _) (.ok (.lst (xs ++ ys))) .stuck
  | _, _ => .stuck
theorem gCat_ok {a b : List D} (h : a.length + b.length ≤ 1000000) : gCat (.lst a) (.lst b) = .ok (.lst (a ++ b)) := @if_pos _ (Classical.propDecidable _) (by omega) _ _ _
theorem f_cat (ha : DU X Wx Ba a ma) (hb : DU X Wx Bb b mb) : DF X Wx (Ba ++ Bb) (.BinOp a .Add b pos) (m2 ma mb gCat) :=
  ⟨PE.weak (pe_op op_cat ha.pe hb.pe) fun σ H Q ⟨F, ρ, ω, L, R, h⟩ => by
    refine part1f (B := Ba ++ Bb) (k := fun x => (mb ρ ω).bind fun y => gCat x y) subl R h fun v H1 x s1 R1 p l1 => ?_
    refine part1f (B := Ba ++ Bb) (k := fun y => gCat x y) subr R1 l1 fun w H2 y s2 R2 q l => ?_
    have p := p.same s2
    unfold gCat at l
    split at l
    · split at l
      · rename_i hl
        obtain ⟨a1, vs, e1, h1, r1⟩ := p
        obtain ⟨b1, ws, e2, h2, r2⟩ := q
        refine ⟨a1, b1, vs, ws, e1, e2, h1, h2, by rw [sizeLine_eq, r1.len, r2.len]; exact hl, fun z hz => ?_⟩
        have sm := same_upd (o := .lst (vs ++ ws)) hz
        exact l.ret sm hz ⟨vs ++ ws, upd_same, (Reps.mono (kp_new hz) _ _ r1).app (Reps.mono (kp_new hz) _ _ r2)⟩
      · exact l.elim
    · exact l.elim⟩
end
end DL
namespace DL
open PySem PySem.Spec PySem.Calls PyProof.Rows L2

/-! ### stores to fields -/
def killS (f : Str) (r : List (Str × Sl)) : List (Str × Sl) := r.map fun e => if e.1 = f then (e.1, .no) else e
def putS (f : Str) (s : Sl) : List (Str × Sl) → List (Str × Sl)
  | [] => [(f, s)]
  | (g, x) :: r => if g = f then (g, s) :: killS f r else (g, x) :: putS f s r
def lcP (L : Lc) (p : Pl) (o : Option Addr) : Lc := fun q => if q = p then o else L q
theorem lcP_ne {L : Lc} {p q : Pl} {o : Option Addr} (h : q ≠ p) : lcP L p o q = L q := if_neg h
theorem lcP_eq {L : Lc} {p : Pl} {o : Option Addr} : lcP L p o p = o := if_pos rfl
section
variable {W : Wd} {F : Fm} {ρ ρ' : Env'} {ω ω' : Store} {L L' : Lc} {σ σ' : L2.St} {H H' : Hp} {n : Nat} {p : Pl} {ex : Bool} {f : Str}
theorem SltR.go (k : Kp H H' (Fr L []) (Fr L' []) (obs L) (obs L')) (hp : L' p = L p) (ne : ∀ a u, L p = some a → H a = some u → H' a = some u) : ∀ {x : Sl} {v : Option V}, SltR W H L p ex x v → SltR W H' L' p ex x v
  | .no, _, _ => trivial
  | .val d, v, ⟨x, e, h⟩ => ⟨x, e, Rep.mono k d x h⟩
  | .own d, v, ⟨a, e, l, h⟩ => ⟨a, e, hp.trans l, RepO.mono k (fun u h => ⟨fun q => ne a _ l (h.1 q), by
      rcases h.2 with h | ⟨o, h⟩
      · exact .inl (ne a _ l h)
      · exact .inr ⟨o, ne a _ l h⟩⟩) (fun xs h => ne a _ l h) h⟩
theorem FsR.go (k : Kp H H' (Fr L []) (Fr L' []) (obs L) (obs L')) (hp : ∀ g, L' (.fd n g) = L (.fd n g)) (ne : ∀ g a u, L (.fd n g) = some a → H a = some u → H' a = some u) : ∀ {fs : List (Str × Sl)} {vs : List (Str × V)}, FsR W H L n ex fs vs → FsR W H' L' n ex fs vs
  | [], _, h => h
  | (f, x) :: r, _, ⟨v, t, e, h, q⟩ => ⟨v, t, e, SltR.go k (hp f) (ne f) h, FsR.go k hp ne q⟩
theorem FsR.kill (k : Kp H H' (Fr L []) (Fr L' []) (obs L) (obs L')) (hp : ∀ g, g ≠ f → L' (.fd n g) = L (.fd n g)) (ne : ∀ g a u, g ≠ f → L (.fd n g) = some a → H a = some u → H' a = some u) : ∀ {fs : List (Str × Sl)} {vs : List (Str × V)}, FsR W H L n ex fs vs → FsR W H' L' n ex (killS f fs) vs
  | [], _, h => h
  | (g, x) :: r, _, ⟨v, t, e, h, q⟩ => by
    have ih := FsR.kill k hp ne q
    show FsR W H' L' n ex ((if g = f then (g, .no) else (g, x)) :: killS f r) _
    by_cases z : g = f
    · rw [if_pos z]
      exact ⟨v, t, e, trivial, ih⟩
    · rw [if_neg z]
      exact ⟨v, t, e, SltR.go k (hp g z) (ne g · · z) h, ih⟩
/-- a field gets a value: the list of values too -/
theorem FsR.put {y : V} {x : Sl} (k : Kp H H' (Fr L []) (Fr L' []) (obs L) (obs L')) (hp : ∀ g, g ≠ f → L' (.fd n g) = L (.fd n g)) (ne : ∀ g a u, g ≠ f → L (.fd n g) = some a → H a = some u → H' a = some u) (hx : SltR W H' L' (.fd n f) ex x (some y)) :
    ∀ {fs : List (Str × Sl)} {vs : List (Str × V)}, FsR W H L n ex fs vs → FsR W H' L' n ex (putS f x fs) (putF f y vs)
  | [], _, h => by
    rw [show _ = [] from h]
    exact ⟨y, [], rfl, hx, rfl⟩
  | (g, s) :: r, _, ⟨v, t, e, h, q⟩ => by
    subst e
    show FsR W H' L' n ex (if g = f then (g, x) :: killS f r else (g, s) :: putS f x r) (if g = f then (g, y) :: t else (g, v) :: putF f y t)
    by_cases z : g = f
    · rw [if_pos z, if_pos z]
      refine ⟨y, t, rfl, ?_, FsR.kill k hp ne q⟩
      rw [z]; exact hx
    · rw [if_neg z, if_neg z]
      exact ⟨v, _, rfl, SltR.go k (hp g z) (ne g · · z) h, FsR.put k hp ne hx q⟩
/-- a field's own container changes: the values stay -/
theorem FsR.poke {b : Addr} {d : D} (k : Kp H H' (Fr L []) (Fr L []) (obs L) (obs L)) (ne : ∀ g a u, g ≠ f → L (.fd n g) = some a → H a = some u → H' a = some u) (hl : L (.fd n f) = some b) (hd : RepO W H' (Fr L []) (obs L) ex d b) :
    ∀ {fs : List (Str × Sl)} {vs : List (Str × V)} {d0 : D}, FsR W H L n ex fs vs → fs.lookup f = some (.own d0) → FsR W H' L n ex (putS f (.own d) fs) vs
  | [], _, _, _, e => by cases e
  | (g, s) :: r, _, d0, ⟨v, t, e, h, q⟩, el => by
    subst e
    show FsR W H' L n ex (if g = f then (g, .own d) :: killS f r else (g, s) :: putS f (.own d) r) _
    by_cases z : g = f
    · rw [if_pos z]
      subst z
      simp only [List.lookup, beq_self_eq_true] at el
      cases el
      obtain ⟨a, e1, e2, _⟩ := h
      have : a = b := Option.some.inj (e2.symm.trans hl)
      subst this
      exact ⟨v, t, rfl, ⟨a, e1, hl, hd⟩, FsR.kill k (fun _ _ => rfl) ne q⟩
    · rw [if_neg z]
      have z' : (f == g) = false := by simpa using fun e : f = g => z e.symm
      simp only [List.lookup, z'] at el
      exact ⟨v, t, rfl, SltR.go k rfl (ne g · · z) h, FsR.poke k ne hl hd q el⟩
/-- a field stored: fresh and owned, or a value -/
theorem Rel.putFd {k : Nat} {o : Ob} {x : Sl} {y : V} {pa : Addr} {C dx : Addr} {fs : List (Str × V)} {oa : Option Addr} (R : Rel W F ρ ω L σ H) (s : Same H H') (hk : F.n0 ≤ k) (ho : ω[k]? = some o) (hL : L (.ob k) = some pa) (hm : W.mg o.cls = some (.ref C)) (hI : H pa = some (.ins C dx fs))
    (hf : FsR W H L k (decide (F.n0 ≤ k)) o.fs fs) (kk : Kp H H' (Fr L []) (Fr (lcP L (.fd k f) oa) []) (obs L) (obs (lcP L (.fd k f) oa))) (hoa : ∀ a, oa = some a → H a = none ∧ ∃ u, H' a = some u ∧ isC u = true)
    (hx : SltR W H' (lcP L (.fd k f) oa) (.fd k f) true x (some y)) : Rel W F ρ (ω.set k ⟨o.cls, putS f x o.fs⟩) (lcP L (.fd k f) oa) σ (upd H' pa (.ins C dx (putF f y fs))) := by
  have hk' : k < ω.length := (List.getElem?_eq_some_iff.mp ho).1
  have old : ∀ {q : Pl} {a : Addr}, q ≠ .fd k f → lcP L (.fd k f) oa q = some a → L q = some a := fun {q a} nq e => by rwa [lcP_ne nq] at e
  have apart : ∀ {q : Pl} {a : Addr}, q ≠ .fd k f → lcP L (.fd k f) oa q = some a → oa ≠ some a := fun {q a} nq e z => by
    obtain ⟨u, h, _⟩ := R.alive q a (old nq e)
    rw [(hoa a z).1] at h; cases h
  have hpa : ∀ {q : Pl} {a : Addr}, q ≠ .fd k f → q ≠ .ob k → L q = some a → a ≠ pa := fun {q a} _ nq e z => nq (R.inj q (.ob k) a e (by rw [z]; exact hL))
  have hpo : ∀ a, oa = some a → a ≠ pa := fun a e z => by
    have := (hoa a e).1
    rw [z, hI] at this; cases this
  have hL' : lcP L (.fd k f) oa (.ob k) = some pa := by rw [lcP_ne (fun z => by cases z)]; exact hL
  -- from H' on
  have k2 : Kp H' (upd H' pa (.ins C dx (putF f y fs))) (Fr (lcP L (.fd k f) oa) []) (Fr (lcP L (.fd k f) oa) []) (obs (lcP L (.fd k f) oa)) (obs (lcP L (.fd k f) oa)) :=
    ⟨fun _ _ f _ => f, fun a u f h => by
      have : a ≠ pa := fun z => by
        obtain ⟨i, m, _⟩ := f (.ob k) (by rw [z]; exact hL')
        cases m
      rw [upd_ne this]; exact h, fun a xs h => by
      have : a ≠ pa := fun z => by
        have q := s _ _ hI
        rw [z] at h
        rw [h] at q; cases q
      rw [upd_ne this]; exact h, fun _ _ h => h⟩
  have k3 := kk.trans k2
  have hx2 : SltR W (upd H' pa (.ins C dx (putF f y fs))) (lcP L (.fd k f) oa) (.fd k f) (decide (F.n0 ≤ k)) x (some y) := by
    rw [decide_eq_true hk]
    refine SltR.go k2 rfl (fun a u e h => ?_) hx
    rw [lcP_eq] at e
    rw [upd_ne (hpo a e)]; exact h
  have keepA : ∀ {q : Pl} {a : Addr} {u : HO}, q ≠ .fd k f → q ≠ .ob k → L q = some a → H a = some u → upd H' pa (.ins C dx (putF f y fs)) a = some u := fun {q a u} n1 n2 e h => by
    rw [upd_ne (hpa n1 n2 e)]; exact s _ _ h
  refine ⟨fun q r a e1 e2 => ?_, fun q a e => ?_, ⟨fun a u h hp => ?_, fun i a e => ?_, fun q a m e => ?_, fun q m => ?_, fun m a h => ?_, fun a u h => ?_⟩, fun a b e => R.fgs a b (old (fun z => by cases z) e), R.len, fun i t e => ?_, fun m t e => ?_, fun m h => ?_⟩
  · by_cases h1 : q = .fd k f
    · by_cases h2 : r = .fd k f
      · rw [h1, h2]
      · subst h1
        rw [lcP_eq] at e1
        exact absurd e1 (apart h2 e2)
    · by_cases h2 : r = .fd k f
      · subst h2
        rw [lcP_eq] at e2
        exact absurd e2 (apart h1 e1)
      · exact R.inj q r a (old h1 e1) (old h2 e2)
  · by_cases h1 : q = .fd k f
    · subst h1
      rw [lcP_eq] at e
      obtain ⟨_, u, h, c⟩ := hoa a e
      exact ⟨u, by rw [upd_ne (hpo a e)]; exact h, c⟩
    · by_cases h2 : q = .ob k
      · subst h2
        have e := old h1 e
        have : a = pa := Option.some.inj (e.symm.trans hL)
        subst this
        exact ⟨_, upd_same, rfl⟩
      · obtain ⟨u, h, c⟩ := R.alive q a (old h1 e)
        exact ⟨u, keepA h1 h2 (old h1 e) h, c⟩
  · have h1 := R.aft.keep a u h hp
    have : a ≠ pa := fun z => by
      subst z
      rcases R.aft.newM (.ob k) a hk hL with ⟨q, mq, eq⟩ | z
      · exact hp q eq mq.mt
      · rw [h] at z; cases z
    rw [upd_ne this]; exact s _ _ h1
  · exact R.aft.newS i a (old (fun z => by cases z) e)
  · by_cases h1 : q = .fd k f
    · subst h1
      rw [lcP_eq] at e
      exact .inr (R.aft.fresh (hoa a e).1)
    · exact R.aft.newM q a m (old h1 e)
  · rw [lcP_ne (fun z => m (by rw [z]; exact hk))]
    exact R.aft.prot q m
  · rw [lcP_ne (fun z => by cases z)]
    exact R.aft.obk m a h
  · obtain ⟨v, q⟩ := R.aft.there a u h
    by_cases z : a = pa
    · exact ⟨_, by rw [z, upd_same]⟩
    · exact ⟨v, by rw [upd_ne z]; exact s _ _ q⟩
  · refine SltR.go k3 (lcP_ne (fun z => by cases z)) (fun a u e h => keepA (fun z => by cases z) (fun z => by cases z) e h) (R.sl i t e)
  · by_cases z : m = k
    · subst z
      rw [List.getElem?_set_self hk'] at e
      cases e
      refine ⟨pa, C, dx, _, hL', hm, upd_same, ?_⟩
      exact FsR.put k3 (fun g ng => lcP_ne (fun z => ng (by cases z; rfl))) (fun g a u ng e h => keepA (fun z => ng (by cases z; rfl)) (fun z => by cases z) e h) hx2 hf
    · rw [List.getElem?_set_ne (Ne.symm z)] at e
      obtain ⟨p1, C1, dx1, fs1, e1, e2, e3, q⟩ := (R.st m t e).at_
      refine ⟨p1, C1, dx1, fs1, by rw [lcP_ne (fun z => by cases z)]; exact e1, e2, keepA (fun z => by cases z) (fun y => z (by cases y; rfl)) e1 e3, ?_⟩
      exact FsR.go k3 (fun g => lcP_ne (fun y => z (by cases y; rfl))) (fun g a u e h => keepA (fun y => z (by cases y; rfl)) (fun y => by cases y) e h) q
  · rw [List.length_set] at h
    have hm2 : m ≠ k := fun z => by omega
    exact ⟨by rw [lcP_ne (fun z => by cases z)]; exact (R.dom m h).1, fun g => by rw [lcP_ne (fun z => hm2 (by cases z; rfl))]; exact (R.dom m h).2 g⟩
/-- a field's own container changed -/
theorem Rel.pokeF {k : Nat} {o : Ob} {b : Addr} {u : HO} {d d0 : D} (R : Rel W F ρ ω L σ H) (hk : F.n0 ≤ k) (ho : ω[k]? = some o) (hl : L (.fd k f) = some b) (el : o.fs.lookup f = some (.own d0)) (hu : isC u = true) (hd : RepO W (upd H b u) (Fr L []) (obs L) true d b) :
    Rel W F ρ (ω.set k ⟨o.cls, putS f (.own d) o.fs⟩) L σ (upd H b u) where
  inj := R.inj
  alive := alive_poke R hl hu
  aft := aft_poke R hl hk
  fgs := R.fgs
  len := R.len
  sl := fun i t e => SltR.chg (kp_poke (B := []) R hl (fun _ => .inr rfl) hu) (fun a q => upd_ne (ne_poke R hl (fun z => by cases z) q)) (R.sl i t e)
  st := fun m t e => by
    have kp := kp_poke (B := []) R hl (fun _ => .inr rfl) hu
    by_cases z : m = k
    · subst z
      have hk' : m < ω.length := (List.getElem?_eq_some_iff.mp ho).1
      rw [List.getElem?_set_self hk'] at e
      cases e
      obtain ⟨p1, C1, dx1, fs1, e1, e2, e3, q⟩ := (R.st m o ho).at_
      refine ⟨p1, C1, dx1, fs1, e1, e2, by rw [upd_ne (ne_poke R hl (fun z => by cases z) e1)]; exact e3, ?_⟩
      refine FsR.poke kp (fun g a v ng e h => by rw [upd_ne (ne_poke R hl (fun z => ng (by cases z; rfl)) e)]; exact h) hl ?_ q el
      rw [decide_eq_true hk]; exact hd
    · rw [List.getElem?_set_ne (Ne.symm z)] at e
      obtain ⟨p1, C1, dx1, fs1, e1, e2, e3, q⟩ := (R.st m t e).at_
      exact ⟨p1, C1, dx1, fs1, e1, e2, by rw [upd_ne (ne_poke R hl (fun y => by cases y) e1)]; exact e3, FsR.go kp (fun _ => rfl) (fun g a v e h => by rw [upd_ne (ne_poke R hl (fun y => z (by cases y; rfl)) e)]; exact h) q⟩
  dom := fun m h => R.dom m (by rw [List.length_set] at h; exact h)
/-- a new object -/
theorem Rel.newOb {c : Str} {C dx x : Addr} (R : Rel W F ρ ω L σ H) (hn : F.n0 ≤ ω.length) (hx : H x = none) (hdx : H dx = none) (ne : dx ≠ x) (hm : W.mg c = some (.ref C)) :
    Rel W F ρ (ω ++ [⟨c, []⟩]) (lcP L (.ob ω.length) (some x)) σ (upd (upd H dx (.own x)) x (.ins C dx [])) := by
  have s1 : Same H (upd H dx (.own x)) := same_upd hdx
  have hx1 : upd H dx (.own x) x = none := by rw [upd_ne (Ne.symm ne)]; exact hx
  have s : Same H (upd (upd H dx (.own x)) x (.ins C dx [])) := s1.trans (same_upd hx1)
  have old : ∀ {q : Pl} {a : Addr}, q ≠ .ob ω.length → lcP L (.ob ω.length) (some x) q = some a → L q = some a := fun {q a} nq e => by rwa [lcP_ne nq] at e
  have apart : ∀ {q : Pl} {a : Addr}, L q = some a → a ≠ x := fun {q a} e z => by
    obtain ⟨u, h, _⟩ := R.alive q a e
    rw [z, hx] at h; cases h
  have kk : Kp H (upd (upd H dx (.own x)) x (.ins C dx [])) (Fr L []) (Fr (lcP L (.ob ω.length) (some x)) []) (obs L) (obs (lcP L (.ob ω.length) (some x))) :=
    ⟨fun a u f h p e => by
      by_cases z : p = .ob ω.length
      · subst z
        rw [lcP_eq] at e
        cases e
        rw [hx] at h; cases h
      · exact f p (old z e), fun a u _ h => s a u h, fun a xs h => s a _ h, fun m a h => by
      have h : L (.ob m) = some a := h
      show lcP L (.ob ω.length) (some x) (.ob m) = some a
      by_cases z : m = ω.length
      · rw [z, (R.dom _ (Nat.le_refl _)).1] at h; cases h
      · rw [lcP_ne (fun y => z (by cases y; rfl))]; exact h⟩
  refine ⟨fun q r a e1 e2 => ?_, fun q a e => ?_, ⟨fun a u h hp => s a u (R.aft.keep a u h hp), fun i a e => R.aft.newS i a (old (fun z => by cases z) e), fun q a m e => ?_, fun q m => ?_, fun m a h => ?_, fun a u h => ?_⟩, fun a b e => R.fgs a b (old (fun z => by cases z) e), R.len, fun i t e => SltR.move kk s (lcP_ne (fun z => by cases z)) (R.sl i t e), fun m t e => ?_, fun m h => ?_⟩
  · by_cases h1 : q = .ob ω.length
    · by_cases h2 : r = .ob ω.length
      · rw [h1, h2]
      · subst h1
        rw [lcP_eq] at e1
        cases e1
        exact absurd rfl (apart (old h2 e2))
    · by_cases h2 : r = .ob ω.length
      · subst h2
        rw [lcP_eq] at e2
        cases e2
        exact absurd rfl (apart (old h1 e1))
      · exact R.inj q r a (old h1 e1) (old h2 e2)
  · by_cases h1 : q = .ob ω.length
    · subst h1
      rw [lcP_eq] at e
      cases e
      exact ⟨_, upd_same, rfl⟩
    · obtain ⟨u, h, c⟩ := R.alive q a (old h1 e)
      exact ⟨u, s a u h, c⟩
  · by_cases h1 : q = .ob ω.length
    · subst h1
      rw [lcP_eq] at e
      cases e
      exact .inr (R.aft.fresh hx)
    · exact R.aft.newM q a m (old h1 e)
  · rw [lcP_ne (fun z => m (by rw [z]; exact hn))]
    exact R.aft.prot q m
  · have h1 := R.aft.obk m a h
    by_cases z : m = ω.length
    · rw [z, (R.dom _ (Nat.le_refl _)).1] at h1; cases h1
    · rw [lcP_ne (fun y => z (by cases y; rfl))]; exact h1
  · obtain ⟨v, q⟩ := R.aft.there a u h
    exact ⟨v, s a v q⟩
  · by_cases z : m < ω.length
    · rw [List.getElem?_append_left z] at e
      exact ObR.move kk s (fun g => lcP_ne (fun y => by cases y)) (R.st m t e)
    · have hm' : m = ω.length := by
        have := (List.getElem?_eq_some_iff.mp e).1
        rw [List.length_append, List.length_singleton] at this
        omega
      subst hm'
      rw [List.getElem?_append_right (Nat.le_refl _), Nat.sub_self] at e
      cases e
      exact ⟨x, C, dx, [], lcP_eq, hm, upd_same, rfl⟩
  · rw [List.length_append, List.length_singleton] at h
    exact ⟨by rw [lcP_ne (fun z => by cases z; omega)]; exact (R.dom m (by omega)).1, fun g => by rw [lcP_ne (fun z => by cases z)]; exact (R.dom m (by omega)).2 g⟩
end
/-! ### facts of classes -/
structure Mc (P : Program) (w : World) (K : PySem.W.Frag) (mg : Str → Option Value) (base : Heap) (k : Nat) (c m : Str) (n : Nat) (g : Fu) : Prop where
  ex : ∃ C f fd ps, mg c = some (.ref C) ∧ Cls K C ∧ Meth K C m f ∧ Binds K fd ps [] ∧ ps.length = n ∧ FnOk P w K mg base (L2.CX P w) k f fd ps (spF ⟨K, mg⟩ n g)
structure Kc (P : Program) (w : World) (K : PySem.W.Frag) (mg : Str → Option Value) (base : Heap) (k : Nat) (c : Str) (n : Nat) (g : Fu) : Prop where
  ex : ∃ C f fd ps, mg c = some (.ref C) ∧ Mk K C f ∧ Binds K fd ps [] ∧ ps.length = n ∧ FnOk P w K mg base (L2.CX P w) k f fd ps (spF ⟨K, mg⟩ n g)
section
variable {X : Cx} {Wx : WX} {pos p p' apos pos' : Pos} {a b c e o kx : Expr} {es : List Expr} {Ba Bb Bo Bk B : List Nat} {ma mb m mo mk : M} {mr : MA} {xa xb xo : MX} {xr : MXA} {x y f cl mt : Str} {i j k n : Nat} {g : Fu}
def tMethSD (C : Addr) (m : Str) (sp : Sp) (dvs : List V) (E : L2.St → XK) (ta : TE) (t : TA) : TE := fun σ H Q => ta σ H fun x H1 => ∃ a dx fs, x = .ref a ∧ H1 a = some (.ins C dx fs) ∧ fs.lookup m = none ∧
  t σ H1 fun vs H2 => sp (x :: (vs ++ dvs)) H2 Q (E σ)
theorem pe_methSD {CX : CXT} {C fa : Addr} {fd : FuncData} {ps : List Str} {sp : Sp} {dvs : List V} {ds : List Value} {E : L2.St → XK} {ta : TE} {t : TA} {m : Str} {k : Nat} {pl : Sem Bool} (he : PE X o ta) (c : Cls X.K C) (hm : Meth X.K C m fa) (F : FnOk X.prog X.w X.K X.mg X.base CX k fa fd ps sp) (hr : Room k X.A) (hb : Binds X.K fd ps ds) (hd : Vals dvs ds) (hx : ∀ σ, PassesAt CX X σ (E σ)) (ha : PA X (e :: es) t)
    (hst : starEach (e :: es) X.env = (false, eval e X.env) :: starEach es X.env := by rfl) (hpl : (backTo pos (starEach es X.env)).any (·.1) = false := by rfl)
    (ht : eval (.Call (.Attribute o m apos) (e :: es) [] pos) X.env = (do
      let ov ← eval o X.env
      standAt apos.atName
      let (f, first) ← holding [ov] (getMethod ov m pl)
      callWith pos f first (backTo pos (starEach (e :: es) X.env)) (backToKw pos (keywordEach [] X.env))) := by rfl) :
    PE X (.Call (.Attribute o m apos) (e :: es) [] pos) (tMethSD C m sp dvs E ta t) := by
  refine ⟨fun pins s σ H Q I h => ?_⟩
  refine PySem.W.methodCall_KW (pl := pl) (thn (he.run pins s σ H _ I h) fun u s1 ⟨x, H1, I1, rx, a, dx, fs, ex, ea, l, q⟩ => ?_) ht
  subst ex
  obtain rfl : u = Value.ref a := rx
  refine getmeth_ok I1 ea c hm l ?_
  refine PySem.W.callWith_K (first := [.ref a]) (h₀ := X.base) I.ok.mod.kin hm.kp (thn (ha.run pos pins s1 σ H1 _ I1 q) fun us s2 ⟨vs, H2, I2, r, q2⟩ => ⟨I2.kIn, ?_⟩) hst hpl
  exact run_fnSD (us := .ref a :: us) (vs := .ref a :: vs) F hr hb hd (hx σ) I2 (.cons rfl r) q2
theorem pe_methSD0 {CX : CXT} {C fa : Addr} {fd : FuncData} {ps : List Str} {sp : Sp} {dvs : List V} {ds : List Value} {E : L2.St → XK} {ta : TE} {m : Str} {k : Nat} {pl : Sem Bool} (he : PE X o ta) (c : Cls X.K C) (hm : Meth X.K C m fa) (F : FnOk X.prog X.w X.K X.mg X.base CX k fa fd ps sp) (hr : Room k X.A) (hb : Binds X.K fd ps ds) (hd : Vals dvs ds) (hx : ∀ σ, PassesAt CX X σ (E σ))
    (ht : eval (.Call (.Attribute o m apos) [] [] pos) X.env = (do
      let ov ← eval o X.env
      standAt apos.atName
      let (f, first) ← holding [ov] (getMethod ov m pl)
      callWith pos f first (backTo pos (starEach [] X.env)) (backToKw pos (keywordEach [] X.env))) := by rfl) :
    PE X (.Call (.Attribute o m apos) [] [] pos) (tMethSD C m sp dvs E ta tNil) := by
  refine ⟨fun pins s σ H Q I h => ?_⟩
  refine PySem.W.methodCall_KW (pl := pl) (thn (he.run pins s σ H _ I h) fun u s1 ⟨x, H1, I1, rx, a, dx, fs, ex, ea, l, q⟩ => ?_) ht
  subst ex
  obtain rfl : u = Value.ref a := rx
  refine getmeth_ok I1 ea c hm l ?_
  exact PySem.W.callWith_K0 (first := [.ref a]) I1.kIn hm.kp (run_fnSD (us := [.ref a]) (vs := [.ref a]) F hr hb hd (hx σ) I1 (.cons rfl .nil) q)
def tMakeSD (C : Addr) (sp : Sp) (dvs : List V) (E : L2.St → XK) (t : TA) : TE := fun σ H Q => t σ H fun vs H1 => ∀ x dx, H1 x = none → H1 dx = none → dx ≠ x →
  sp (.ref x :: (vs ++ dvs)) (upd (upd H1 dx (.own x)) x (.ins C dx [])) (fun v H2 => v = .non ∧ Q (.ref x) H2) (E σ)
theorem run_makeSD {CX : CXT} {C fa : Addr} {fd : FuncData} {ps : List Str} {sp : Sp} {dvs : List V} {ds : List Value} {E : L2.St → XK} {k : Nat} {pins : List (Addr × Obj)} {σ : L2.St} {H : Hp} {s : Shared} {Q : VK} {us : List Value} {vs : List V} (M : Mk X.K C fa) (F : FnOk X.prog X.w X.K X.mg X.base CX k fa fd ps sp) (hr : Room (k + 1) X.A) (hb : Binds X.K fd ps ds) (hd : Vals dvs ds)
    (hx : PassesAt CX X σ (E σ)) (I : Inv X pins σ H s) (r : Vals vs us)
    (h : ∀ x dx, H x = none → H dx = none → dx ≠ x → sp (.ref x :: (vs ++ dvs)) (upd (upd H dx (.own x)) x (.ins C dx [])) (fun v H2 => v = .non ∧ Q (.ref x) H2) (E σ)) :
    wpAny (model X.prog X.w) X.A (call (.ref C) us) (EP X pins σ Q) X.xe s := by
  have hq := h (s.heap.objs.size + 1) s.heap.objs.size (I.hok.fresh (Nat.le_succ _)) (I.hok.fresh (Nat.le_refl _)) (Nat.ne_of_lt (Nat.lt_succ_self _))
  have I2 := Inv.made (C := C) I
  have r2 : Vals (V.ref (s.heap.objs.size + 1) :: (vs ++ dvs)) (Value.ref (s.heap.objs.size + 1) :: (us ++ ds)) := .cons rfl (r.append hd)
  have hl : (Value.ref (s.heap.objs.size + 1) :: us ++ ds).length = ps.length := by
    have e := r2.length
    rw [F.len _ _ _ _ hq] at e
    exact e.symm
  refine wpAny_call (make_map (f := fa) I.kIn M.makes M.init (beq_iff_eq.mp M.fn) (codeAny_mono (F.run _ X.stack _ _ ⟨Value.ref (s.heap.objs.size + 1) :: us, []⟩ (Value.ref (s.heap.objs.size + 1) :: (us ++ ds)) _ _ (E σ) (hr.make C us [])
    (I2.env0.make C us []) (hb _ (Value.ref (s.heap.objs.size + 1) :: us) I2.kIn hl) r2 hq) fun r s' hq' => ?_))
  cases r with
  | error e => exact hx pins _ _ e s' I2 hq'
  | ok fl =>
    cases fl with
    | ret u =>
      obtain ⟨v, H', I3, rv, ev, q3⟩ := I2.after hq'
      subst ev
      exact ⟨rv, ⟨V.ref (s.heap.objs.size + 1), H', I3, rfl, q3⟩⟩
    | next => exact False.elim hq'
    | brk => exact False.elim hq'
    | cont => exact False.elim hq'
theorem pe_makeSD {CX : CXT} {C fa : Addr} {fd : FuncData} {ps : List Str} {sp : Sp} {dvs : List V} {ds : List Value} {E : L2.St → XK} {k : Nat} {t : TA} (M : Mk X.K C fa) (F : FnOk X.prog X.w X.K X.mg X.base CX k fa fd ps sp) (hr : Room (k + 1) X.A) (hg : Gl X x) (hm : X.mg x = some (.ref C)) (hb : Binds X.K fd ps ds) (hd : Vals dvs ds) (hx : ∀ σ, PassesAt CX X σ (E σ))
    (ha : PA X (e :: es) t) (hdb : (x == ("__debug__" : Str)) = false := by decide) (he : starEach (e :: es) X.env = (false, eval e X.env) :: starEach es X.env := by rfl) (hpl : (backTo pos (starEach es X.env)).any (·.1) = false := by rfl) :
    PE X (.Call (.Name x p) (e :: es) [] pos) (tMakeSD C sp dvs E t) := by
  refine ⟨fun pins s σ H Q I h => ?_⟩
  refine wpAny_Call_Name_kw (ld_glob I hg hm ?_ hdb)
  refine PySem.W.callWith_K (h₀ := X.base) I.ok.mod.kin M.kp (thn (ha.run pos pins s σ H _ I h) fun us s1 ⟨vs, H1, I1, r, q⟩ => ⟨I1.kIn, ?_⟩) he hpl
  exact run_makeSD M F hr hb hd (hx σ) I1 r q
theorem pe_makeSD0 {CX : CXT} {C fa : Addr} {fd : FuncData} {ps : List Str} {sp : Sp} {dvs : List V} {ds : List Value} {E : L2.St → XK} {k : Nat} (M : Mk X.K C fa) (F : FnOk X.prog X.w X.K X.mg X.base CX k fa fd ps sp) (hr : Room (k + 1) X.A) (hg : Gl X x) (hm : X.mg x = some (.ref C)) (hb : Binds X.K fd ps ds) (hd : Vals dvs ds) (hx : ∀ σ, PassesAt CX X σ (E σ))
    (hdb : (x == ("__debug__" : Str)) = false := by decide) : PE X (.Call (.Name x p) [] [] pos) (tMakeSD C sp dvs E tNil) := by
  refine ⟨fun pins s σ H Q I h => ?_⟩
  refine wpAny_Call_Name_kw (ld_glob I hg hm ?_ hdb)
  exact PySem.W.callWith_K0 I.kIn M.kp (run_makeSD (us := []) M F hr hb hd (hx σ) I .nil h)
end
/-! ### methods -/
/-- the object has no field of the method's name -/
def noFd (m : Str) : List (Str × Sl) → Bool
  | [] => true
  | (g, _) :: r => !decide (m = g) && noFd m r
theorem noFd_ok {W : Wd} {H : Hp} {L : Lc} {n : Nat} {ex : Bool} {m : Str} : ∀ {fs : List (Str × Sl)} {vs : List (Str × V)}, FsR W H L n ex fs vs → noFd m fs = true → vs.lookup m = none
  | [], _, h, _ => by rw [show _ = [] from h]; rfl
  | (g, s) :: r, _, ⟨v, t, e, _, q⟩, h => by
    subst e
    have h : (!decide (m = g) && noFd m r) = true := h
    rw [Bool.and_eq_true] at h
    have hne : (m == g) = false := by
      have h1 := h.1
      cases z : decide (m = g) with
      | true => rw [z] at h1; cases h1
      | false => simpa using of_decide_eq_false z
    simp only [List.lookup, hne]
    exact noFd_ok q h.2
def recv (cl mt : Str) (ω : Store) : D → Bool
  | .obj n => (match ω[n]? with
    | some o => decide (o.cls = cl) && noFd mt o.fs
    | none => false)
  | _ => false
section
variable {X : Cx} {Wx : WX} {pos p p' apos pos' : Pos} {a b c e o kx : Expr} {es : List Expr} {Ba Bb Bo Bk B : List Nat} {ma mb m mo mk : M} {mr : MA} {xa xb xo : MX} {xr : MXA} {x y f cl mt : Str} {i j k n : Nat} {g : Fu}
theorem recv_ok {W : Wd} {F : Fm} {ρ : Env'} {ω : Store} {L : Lc} {σ : L2.St} {H : Hp} {B : List Nat} {d : D} {v : V} {C : Addr} (R : Rel W F ρ ω L σ H) (hr : recv cl mt ω d = true) (hm : W.mg cl = some (.ref C)) (q : RepU W H (Fr L B) (obs L) d v) :
    ∃ n a dx fs, d = .obj n ∧ L (.ob n) = some a ∧ v = .ref a ∧ H a = some (.ins C dx fs) ∧ fs.lookup mt = none := by
  cases d with
  | obj n =>
    unfold recv at hr
    dsimp only at hr
    cases eo : ω[n]? with
    | none => rw [eo] at hr; cases hr
    | some o =>
      rw [eo] at hr
      have hr : (decide (o.cls = cl) && noFd mt o.fs) = true := hr
      rw [Bool.and_eq_true, decide_eq_true_eq] at hr
      obtain ⟨p1, C1, dx, fs, e1, e2, e3, q1⟩ := (R.st n o eo).at_
      rw [hr.1, hm] at e2
      cases e2
      obtain ⟨a, e4, e5⟩ := q
      have : p1 = a := Option.some.inj (e1.symm.trans e4)
      subst this
      exact ⟨n, p1, dx, fs, rfl, e1, e5, e3, noFd_ok q1 hr.2⟩
  | _ => cases hr
/-- a method that changes nothing -/
@[simp] def mMeth (cl mt : Str) (n : Nat) (g : Fu) (mo : M) (mr : MA) : M := fun ρ ω => (mo ρ ω).bind fun d => if recv cl mt ω d = true then (mr ρ ω).bind fun ds => if ds.length + 1 = n then ofRR ω (g ω.length (d :: ds) ω) else .stuck else .stuck
theorem meth_read {W : Wd} {F : Fm} {ρ : Env'} {ω : Store} {L : Lc} {σ : L2.St} {H : Hp} {Q : VK} {B : List Nat} {ds : List D} {vs : List V} {n : Nat} {g : Fu} (R : Rel W F ρ ω L σ H) (q : Reps W H (Fr L B) (obs L) ds vs) (h : Leaf W Wx L B σ H Q (if ds.length = n then ofRR ω (g ω.length ds ω) else .stuck)) : spF W n g vs H Q (fun c d H => Wx c d σ H) := by
  split at h
  case isFalse => exact h.elim
  rename_i hds
  refine ⟨by rw [q.len, hds], ω.length, lcC L B, ω, ds, R.into B ω.length (fun n h1 h2 => absurd h1 (Nat.not_lt.mpr h2)), lcC_no, Reps.mono kp_call ds vs q, ?_⟩
  cases zg : g ω.length ds ω with
  | stuck => rw [zg] at h; exact h
  | er e ω' =>
    rw [zg] at h
    exact fun cls dd H2 L' R' ns x => h cls dd H2 (call_keep R R' (Nat.le_refl _)) x
  | ok d ω' =>
    rw [zg] at h
    replace h : Leaf W Wx L B σ H Q (if ω'.length = ω.length then .ok d else .stuck) := h
    split at h
    · rename_i hl
      exact fun v H2 L' R' ns r => h v H2 (call_keep R R' (Nat.le_refl _)) (Rep.mono (call_back R R' (Nat.le_refl _) hl) d v r)
    · exact h.elim
theorem d_meth (cc : Mc X.prog X.w X.K X.mg X.base j cl mt n g) (hr : Room k X.A) (tk : Takes X Wx) (ho : DU X Wx Bo o mo) (ha : DA X Wx B (e :: es) mr) (hj : j ≤ k := by decide) {pl : Sem Bool}
    (hst : starEach (e :: es) X.env = (false, eval e X.env) :: starEach es X.env := by rfl) (hpl : (backTo pos (starEach es X.env)).any (·.1) = false := by rfl)
    (ht : eval (.Call (.Attribute o mt apos) (e :: es) [] pos) X.env = (do
      let ov ← eval o X.env
      standAt apos.atName
      let (f, first) ← holding [ov] (getMethod ov mt pl)
      callWith pos f first (backTo pos (starEach (e :: es) X.env)) (backToKw pos (keywordEach [] X.env))) := by rfl) : DP X Wx (Bo ++ B) (.Call (.Attribute o mt apos) (e :: es) [] pos) (mMeth cl mt n g mo mr) := by
  obtain ⟨C, fa, fd, ps, h1, h2, h3, h4, rfl, h6⟩ := cc.ex
  refine ⟨PE.weak (pe_methSD (pl := pl) ho.pe h2 h3 (h6.mono hj) hr h4 .nil (passAt tk) ha.pa hst hpl ht) fun σ H Q ⟨F, ρ, ω, L, R, h⟩ => ?_⟩
  refine part1 (B := Bo ++ B) (k := fun d => if recv cl mt ω d = true then (mr ρ ω).bind fun ds => if ds.length + 1 = ps.length then ofRR ω (g ω.length (d :: ds) ω) else .stuck else .stuck) subl R h fun v H1 d s R1 q l => ?_
  split at l
  case isFalse => exact l.elim
  rename_i hrv
  obtain ⟨nn, a, dx, fs, e1, e2, e3, e4, e5⟩ := recv_ok R1 hrv h1 q
  subst e1 e3
  refine ⟨a, dx, fs, rfl, e4, e5, F, ρ, ω, L, R1, ?_⟩
  refine LeafA.to (B' := Bo ++ B) (k := fun ds => if ds.length + 1 = ps.length then ofRR ω (g ω.length (.obj nn :: ds) ω) else .stuck) l subr fun vs H2 ds s2 q2 l2 => ?_
  rw [List.append_nil]
  exact meth_read (ds := .obj nn :: ds) (R1.same s2) ⟨_, _, rfl, ⟨a, e2, rfl⟩, q2⟩ l2
theorem d_meth0 (cc : Mc X.prog X.w X.K X.mg X.base j cl mt n g) (hr : Room k X.A) (tk : Takes X Wx) (ho : DU X Wx Bo o mo) (hj : j ≤ k := by decide) {pl : Sem Bool}
    (ht : eval (.Call (.Attribute o mt apos) [] [] pos) X.env = (do
      let ov ← eval o X.env
      standAt apos.atName
      let (f, first) ← holding [ov] (getMethod ov mt pl)
      callWith pos f first (backTo pos (starEach [] X.env)) (backToKw pos (keywordEach [] X.env))) := by rfl) : DP X Wx Bo (.Call (.Attribute o mt apos) [] [] pos) (mMeth cl mt n g mo aNil) := by
  obtain ⟨C, fa, fd, ps, h1, h2, h3, h4, rfl, h6⟩ := cc.ex
  refine ⟨PE.weak (pe_methSD0 (pl := pl) ho.pe h2 h3 (h6.mono hj) hr h4 .nil (passAt tk) ht) fun σ H Q ⟨F, ρ, ω, L, R, h⟩ => ?_⟩
  refine part1 (B := Bo) (k := fun d => if recv cl mt ω d = true then (aNil ρ ω).bind fun ds => if ds.length + 1 = ps.length then ofRR ω (g ω.length (d :: ds) ω) else .stuck else .stuck) subid R h fun v H1 d s R1 q l => ?_
  split at l
  case isFalse => exact l.elim
  rename_i hrv
  obtain ⟨nn, a, dx, fs, e1, e2, e3, e4, e5⟩ := recv_ok R1 hrv h1 q
  subst e1 e3
  refine ⟨a, dx, fs, rfl, e4, e5, ?_⟩
  exact meth_read (ds := [.obj nn]) R1 ⟨_, _, rfl, ⟨a, e2, rfl⟩, rfl⟩ l
/-- a method that may change objects -/
@[simp] def xMeth (cl mt : Str) (n : Nat) (g : Fu) (mo : M) (xr : MXA) : MX := fun n0 ρ ω => match mo ρ ω with
  | .stuck => .stuck
  | .err e => .er e ω
  | .ok d => if recv cl mt ω d = true then (xr n0 ρ ω).bind fun ds ρ1 ω1 => if ds.length + 1 = n then rrX ρ1 (g n0 (d :: ds) ω1) else .stuck else .stuck
theorem x_meth (cc : Mc X.prog X.w X.K X.mg X.base j cl mt n g) (hr : Room k X.A) (tk : Takes X Wx) (ho : DU X Wx Bo o mo) (ha : DXA X Wx (e :: es) xr) (hj : j ≤ k := by decide) {pl : Sem Bool}
    (hst : starEach (e :: es) X.env = (false, eval e X.env) :: starEach es X.env := by rfl) (hpl : (backTo pos (starEach es X.env)).any (·.1) = false := by rfl)
    (ht : eval (.Call (.Attribute o mt apos) (e :: es) [] pos) X.env = (do
      let ov ← eval o X.env
      standAt apos.atName
      let (f, first) ← holding [ov] (getMethod ov mt pl)
      callWith pos f first (backTo pos (starEach (e :: es) X.env)) (backToKw pos (keywordEach [] X.env))) := by rfl) : DX X Wx (.Call (.Attribute o mt apos) (e :: es) [] pos) (xMeth cl mt n g mo xr) := by
  obtain ⟨C, fa, fd, ps, h1, h2, h3, h4, rfl, h6⟩ := cc.ex
  refine ⟨PE.weak (pe_methSD (pl := pl) ho.pe h2 h3 (h6.mono hj) hr h4 .nil (passAt tk) ha.pa hst hpl ht) fun σ H Q ⟨F, ρ, ω, L, R, h⟩ => ?_⟩
  refine ⟨F, ρ, ω, L, R, ?_⟩
  unfold xMeth at h
  cases z : mo ρ ω with
  | stuck => rw [z] at h; exact h
  | err e => rw [z] at h; exact fun c d H' s x => h c d ρ H' L (R.same s) x
  | ok d =>
    rw [z] at h
    intro v H1 s q
    replace h : LeafX (wd X) Wx F σ Q (if recv cl mt ω d = true then (xr F.n0 ρ ω).bind fun ds ρ1 ω1 => if ds.length + 1 = ps.length then rrX ρ1 (g F.n0 (d :: ds) ω1) else .stuck else .stuck) := h
    have R1 := R.same s
    split at h
    case isFalse => exact h.elim
    rename_i hrv
    obtain ⟨nn, a, dx, fs, e1, e2, e3, e4, e5⟩ := recv_ok R1 hrv h1 q
    subst e1 e3
    refine ⟨a, dx, fs, rfl, e4, e5, ?_⟩
    refine partAx (k := fun ds ρ1 ω1 => if ds.length + 1 = ps.length then rrX ρ1 (g F.n0 (.obj nn :: ds) ω1) else .stuck) R1 h fun vs H2 L2 ρ1 ω1 ds R2 af q2 l2 => ?_
    rw [List.append_nil]
    exact spF_of (ds := .obj nn :: ds) R2 ⟨_, _, rfl, ⟨a, af.obk nn a e2, rfl⟩, q2⟩ l2
theorem x_meth0 (cc : Mc X.prog X.w X.K X.mg X.base j cl mt n g) (hr : Room k X.A) (tk : Takes X Wx) (ho : DU X Wx Bo o mo) (hj : j ≤ k := by decide) {pl : Sem Bool}
    (ht : eval (.Call (.Attribute o mt apos) [] [] pos) X.env = (do
      let ov ← eval o X.env
      standAt apos.atName
      let (f, first) ← holding [ov] (getMethod ov mt pl)
      callWith pos f first (backTo pos (starEach [] X.env)) (backToKw pos (keywordEach [] X.env))) := by rfl) : DX X Wx (.Call (.Attribute o mt apos) [] [] pos) (xMeth cl mt n g mo (xaP [] aNil)) := by
  obtain ⟨C, fa, fd, ps, h1, h2, h3, h4, rfl, h6⟩ := cc.ex
  refine ⟨PE.weak (pe_methSD0 (pl := pl) ho.pe h2 h3 (h6.mono hj) hr h4 .nil (passAt tk) ht) fun σ H Q ⟨F, ρ, ω, L, R, h⟩ => ?_⟩
  refine ⟨F, ρ, ω, L, R, ?_⟩
  unfold xMeth at h
  cases z : mo ρ ω with
  | stuck => rw [z] at h; exact h
  | err e => rw [z] at h; exact fun c d H' s x => h c d ρ H' L (R.same s) x
  | ok d =>
    rw [z] at h
    intro v H1 s q
    replace h : LeafX (wd X) Wx F σ Q (if recv cl mt ω d = true then (if ([] : List D).length + 1 = ps.length then rrX ρ (g F.n0 (d :: []) ω) else .stuck) else .stuck) := h
    have R1 := R.same s
    split at h
    case isFalse => exact h.elim
    rename_i hrv
    obtain ⟨nn, a, dx, fs, e1, e2, e3, e4, e5⟩ := recv_ok R1 hrv h1 q
    subst e1 e3
    refine ⟨a, dx, fs, rfl, e4, e5, ?_⟩
    exact spF_of (ds := [.obj nn]) R1 ⟨_, _, rfl, ⟨a, e2, rfl⟩, rfl⟩ h
/-- C(..) -/
def mkX (k : Nat) (ρ : Env') : RR → RE
  | .ok .non ω => .ok (.obj k) ρ ω
  | .er e ω => .er e ω
  | _ => .stuck
@[simp] def xMake (cl : Str) (n : Nat) (g : Fu) (xr : MXA) : MX := fun n0 ρ ω => (xr n0 ρ ω).bind fun ds ρ1 ω1 => if ds.length + 1 = n ∧ n0 ≤ ω1.length then mkX ω1.length ρ1 (g n0 (.obj ω1.length :: ds) (ω1 ++ [⟨cl, []⟩])) else .stuck
theorem make_read {W : Wd} {F : Fm} {ρ : Env'} {ω : Store} {L : Lc} {σ : L2.St} {H : Hp} {Q : VK} {ds : List D} {vs : List V} {n : Nat} {g : Fu} {C x dx : Addr} (R : Rel W F ρ ω L σ H) (q : Reps W H (Fr L []) (obs L) ds vs) (hm : W.mg cl = some (.ref C)) (hx : H x = none) (hdx : H dx = none) (ne : dx ≠ x)
    (h : LeafX W Wx F σ Q (if ds.length + 1 = n ∧ F.n0 ≤ ω.length then mkX ω.length ρ (g F.n0 (.obj ω.length :: ds) (ω ++ [⟨cl, []⟩])) else .stuck)) :
    spF W n g (.ref x :: vs) (upd (upd H dx (.own x)) x (.ins C dx [])) (fun v H2 => v = .non ∧ Q (.ref x) H2) (fun c d H => Wx c d σ H) := by
  split at h
  case isFalse => exact h.elim
  rename_i hc
  have R2 := R.newOb hc.2 hx hdx ne hm
  have s : Same H (upd (upd H dx (.own x)) x (.ins C dx [])) := (same_upd hdx).trans (same_upd (by rw [upd_ne (Ne.symm ne)]; exact hx))
  have q2 : Reps W (upd (upd H dx (.own x)) x (.ins C dx [])) (Fr (lcP L (.ob ω.length) (some x)) []) (obs (lcP L (.ob ω.length) (some x))) ds vs := by
    refine Reps.mono ⟨fun a u f h p e => ?_, fun a u _ h => s a u h, fun a xs h => s a _ h, fun m a h => ?_⟩ ds vs q
    · by_cases z : p = .ob ω.length
      · subst z
        rw [lcP_eq] at e
        cases e
        rw [hx] at h; cases h
      · rw [lcP_ne z] at e; exact f p e
    · have h : L (.ob m) = some a := h
      show lcP L (.ob ω.length) (some x) (.ob m) = some a
      by_cases z : m = ω.length
      · rw [z, (R.dom _ (Nat.le_refl _)).1] at h; cases h
      · rw [lcP_ne (fun y => z (by cases y; rfl))]; exact h
  have q3 : Reps W (upd (upd H dx (.own x)) x (.ins C dx [])) (Fr (lcP L (.ob ω.length) (some x)) []) (obs (lcP L (.ob ω.length) (some x))) (.obj ω.length :: ds) (.ref x :: vs) := ⟨_, _, rfl, ⟨x, lcP_eq, rfl⟩, q2⟩
  refine ⟨by rw [List.length_cons, q.len]; exact hc.1, F.n0, lcC (lcP L (.ob ω.length) (some x)) [], ω ++ [⟨cl, []⟩], .obj ω.length :: ds, R2.into [] F.n0 (fun _ _ h => h), lcC_no, Reps.mono kp_call0 _ _ q3, ?_⟩
  cases zg : g F.n0 (.obj ω.length :: ds) (ω ++ [⟨cl, []⟩]) with
  | stuck => rw [zg] at h; exact h
  | er e ω' => rw [zg] at h; exact fun c d H' L' R' _ x => h c d ρ H' _ (R2.back R') x
  | ok d ω' =>
    rw [zg] at h
    cases d with
    | non =>
      refine fun v H' L' R' _ qv => ⟨qv, h (.ref x) H' _ (R2.back R') ⟨x, ?_, rfl⟩⟩
      show lcB (lcP L (.ob ω.length) (some x)) L' (.ob ω.length) = some x
      exact R'.aft.obk ω.length x lcP_eq
    | _ => exact h.elim
theorem x_make (cc : Kc X.prog X.w X.K X.mg X.base j cl n g) (hr : Room k X.A) (tk : Takes X Wx) (ha : DXA X Wx (e :: es) xr) (hg : Gl X cl := by rfl) (hj : j + 1 ≤ k := by decide) (hdb : (cl == ("__debug__" : Str)) = false := by decide)
    (he : starEach (e :: es) X.env = (false, eval e X.env) :: starEach es X.env := by rfl) (hpl : (backTo pos (starEach es X.env)).any (·.1) = false := by rfl) : DX X Wx (.Call (.Name cl p) (e :: es) [] pos) (xMake cl n g xr) := by
  obtain ⟨C, fa, fd, ps, h1, h2, h4, rfl, h6⟩ := cc.ex
  refine ⟨PE.weak (pe_makeSD h2 h6 (hr.mono hj) hg h1 h4 .nil (passAt tk) ha.pa hdb he hpl) fun σ H Q ⟨F, ρ, ω, L, R, h⟩ => ?_⟩
  refine partAx (k := fun ds ρ1 ω1 => if ds.length + 1 = ps.length ∧ F.n0 ≤ ω1.length then mkX ω1.length ρ1 (g F.n0 (.obj ω1.length :: ds) (ω1 ++ [⟨cl, []⟩])) else .stuck) R h fun vs H1 L1 ρ1 ω1 ds R1 _ q l x dx hx hdx ne => ?_
  rw [List.append_nil]
  exact make_read R1 q h1 hx hdx ne l
theorem x_make0 (cc : Kc X.prog X.w X.K X.mg X.base j cl n g) (hr : Room k X.A) (tk : Takes X Wx) (hg : Gl X cl := by rfl) (hj : j + 1 ≤ k := by decide) (hdb : (cl == ("__debug__" : Str)) = false := by decide) : DX X Wx (.Call (.Name cl p) [] [] pos) (xMake cl n g (xaP [] aNil)) := by
  obtain ⟨C, fa, fd, ps, h1, h2, h4, rfl, h6⟩ := cc.ex
  refine ⟨PE.weak (pe_makeSD0 h2 h6 (hr.mono hj) hg h1 h4 .nil (passAt tk) hdb) fun σ H Q ⟨F, ρ, ω, L, R, h⟩ => ?_⟩
  intro x dx hx hdx ne
  exact make_read (ds := []) R rfl h1 hx hdx ne h
end
end DL
namespace DL
open PySem PySem.Spec PySem.Calls PyProof.Rows L2

/-! ### o.f = e -/
/-- the object whose field is stored -/
def objAt (cl : Str) (n0 : Nat) (ω : Store) : D → Option (Nat × Ob)
  | .obj k => (match ω[k]? with
    | some o => if o.cls = cl ∧ n0 ≤ k ∧ o.fs.length < 1000 then some (k, o) else none
    | none => none)
  | _ => none
theorem objAt_some {cl : Str} {n0 : Nat} {ω : Store} {d : D} {k : Nat} {o : Ob} (h : objAt cl n0 ω d = some (k, o)) : d = .obj k ∧ ω[k]? = some o ∧ o.cls = cl ∧ n0 ≤ k ∧ o.fs.length < 1000 := by
  cases d with
  | obj n =>
    unfold objAt at h
    dsimp only at h
    cases e : ω[n]? with
    | none => rw [e] at h; cases h
    | some o' =>
      rw [e] at h
      dsimp only at h
      split at h
      · rename_i c
        cases h
        exact ⟨rfl, e, c⟩
      · cases h
  | _ => cases h
theorem FsR.len {W : Wd} {H : Hp} {L : Lc} {n : Nat} {ex : Bool} : ∀ {fs : List (Str × Sl)} {vs : List (Str × V)}, FsR W H L n ex fs vs → vs.length = fs.length
  | [], _, h => by rw [show _ = [] from h]; rfl
  | (f, s) :: r, _, ⟨v, t, e, _, q⟩ => by rw [e, List.length_cons, List.length_cons, FsR.len q]
def stF (cl f : Str) (ω : Store) (k : Nat) (o : Ob) (s : Sl) : Store := ω.set k ⟨cl, putS f s o.fs⟩
section
variable {X : Cx} {Wx : WX} {pos p p' apos pos' cpos : Pos} {a b c e o kx : Expr} {es : List Expr} {Ba Bb Bo Bk B : List Nat} {ma mb m mo mk : M} {mr : MA} {xa xb xo : MX} {xr : MXA} {x y f cl mt : Str} {i j k n : Nat} {g : Fu}
/-- a value into a field -/
@[simp] def sFldX (cl f : Str) (mo : M) (xa : MX) : T := fun n0 ρ ω => ofX (xa n0 ρ ω) fun d ρ1 ω1 => match mo ρ1 ω1 with
  | .ok r => (match objAt cl n0 ω1 r with
    | some (k, o) => .nx ρ1 (stF cl f ω1 k o (.val d))
    | none => .stuck)
  | _ => .stuck
theorem obj_read {W : Wd} {F : Fm} {ρ : Env'} {ω : Store} {L : Lc} {σ : L2.St} {H : Hp} {B : List Nat} {d : D} {v : V} {k : Nat} {o : Ob} {n0 : Nat} (R : Rel W F ρ ω L σ H) (h : objAt cl n0 ω d = some (k, o)) (q : RepU W H (Fr L B) (obs L) d v) :
    ∃ pa C dx fs, L (.ob k) = some pa ∧ v = .ref pa ∧ W.mg cl = some (.ref C) ∧ H pa = some (.ins C dx fs) ∧ FsR W H L k (decide (F.n0 ≤ k)) o.fs fs ∧ fs.length < 1000 ∧ n0 ≤ k ∧ ω[k]? = some o ∧ o.cls = cl := by
  obtain ⟨e1, e2, e3, e4, e5⟩ := objAt_some h
  subst e1
  obtain ⟨p1, C1, dx, fs, f1, f2, f3, q1⟩ := (R.st k o e2).at_
  obtain ⟨a, e6, e7⟩ := q
  have : p1 = a := Option.some.inj (f1.symm.trans e6)
  subst this
  exact ⟨p1, C1, dx, fs, f1, e7, by rw [← e3]; exact f2, f3, q1, by rw [q1.len]; exact e5, e4, e2, e3⟩
theorem s_fldX (T : FldOk X cl f) (ho : DU X Wx Bo o mo) (he : DX X Wx e xa) (hs : swapsWith e (some (.Attribute o f pos')) pos.line X.env = pure false := by rfl) : DS X Wx (.Assign [.Attribute o f pos'] e pos) (sFldX cl f mo xa) :=
  ⟨PS.weak (ps_fld ho.pe he.pe hs) fun G σ H ⟨F, ρ, ω, L, R, h⟩ => ⟨F, ρ, ω, L, R, leafSX_bind (k := fun d ρ1 ω1 => match mo ρ1 ω1 with
  | .ok r => (match objAt cl F.n0 ω1 r with
    | some (k, o) => .nx ρ1 (stF cl f ω1 k o (.val d))
    | none => .stuck)
  | _ => .stuck) R h fun d ρ1 ω1 v H1 L1 _ R1 q l => by
    refine ⟨F, ρ1, ω1, L1, R1, ?_⟩
    cases z : mo ρ1 ω1 with
    | stuck => rw [z] at l; exact l
    | err e => rw [z] at l; exact l.elim
    | ok r =>
      rw [z] at l
      intro w H2 s2 q2
      replace l : LeafS (wd X) Wx F G (match objAt cl F.n0 ω1 r with
        | some (k, o) => .nx ρ1 (stF cl f ω1 k o (.val d))
        | none => .stuck) := l
      cases z2 : objAt cl F.n0 ω1 r with
      | none => rw [z2] at l; exact l.elim
      | some ko =>
        obtain ⟨k, o⟩ := ko
        rw [z2] at l
        have R2 := R1.same s2
        obtain ⟨pa, C, dx, fs, h1, h2, h3, h4, h5, h6, h7, h8, h9⟩ := obj_read R2 z2 q2
        obtain ⟨T1, T2⟩ := T.ok C h3
        refine ⟨pa, C, dx, fs, h2, h4, T1, T2, h6, ?_⟩
        subst h9
        have kk : Kp H2 H2 (Fr L1 []) (Fr (lcP L1 (.fd k f) none) []) (obs L1) (obs (lcP L1 (.fd k f) none)) :=
          ⟨fun a u g _ p e => by
            by_cases y : p = .fd k f
            · subst y; rw [lcP_eq] at e; cases e
            · rw [lcP_ne y] at e; exact g p e, fun _ _ _ h => h, fun _ _ h => h, fun n a h => by show lcP L1 (.fd k f) none (.ob n) = some a; rw [lcP_ne (fun y => by cases y)]; exact h⟩
        exact l _ _ _ (R2.putFd (Same.refl H2) h7 h8 h1 h3 h4 h5 kk (fun a e => by cases e) ⟨v, rfl, Rep.mono kk d v (q.same s2)⟩)⟩⟩
/-- a new container into a field: the field's own -/
@[simp] def sFldO (cl f : Str) (B : List Nat) (mo : M) (m : M) : T := fun n0 ρ ω => ofE (m ρ ω) ω fun d => match mo ρ ω with
  | .ok r => (match objAt cl n0 ω r with
    | some (k, o) => .nx (demO B d ρ) (stF cl f ω k o (.own d))
    | none => .stuck)
  | _ => .stuck
theorem s_fldO (T : FldOk X cl f) (ho : DU X Wx [] o mo) (he : DF X Wx B e m) (hs : swapsWith e (some (.Attribute o f pos')) pos.line X.env = pure false := by rfl) : DS X Wx (.Assign [.Attribute o f pos'] e pos) (sFldO cl f B mo m) :=
  ⟨PS.weak (ps_fld ho.pe he.pe hs) fun G σ H ⟨F, ρ, ω, L, R, h⟩ => ⟨F, ρ, ω, L, R, by
    unfold sFldO ofE at h
    cases z : m ρ ω with
    | stuck => rw [z] at h; exact h
    | err e => rw [z] at h; exact fun c d H' s x => h c d ρ σ H' L (R.same s) x
    | ok d =>
      rw [z] at h
      intro a H1 s n r
      refine ⟨F, ρ, ω, L, R.same s, ?_⟩
      replace h : LeafS (wd X) Wx F G (match mo ρ ω with
        | .ok r => (match objAt cl F.n0 ω r with
          | some (k, o) => .nx (demO B d ρ) (stF cl f ω k o (.own d))
          | none => .stuck)
        | _ => .stuck) := h
      cases z1 : mo ρ ω with
      | stuck => rw [z1] at h; exact h
      | err e => rw [z1] at h; exact h.elim
      | ok rr =>
        rw [z1] at h
        intro w H2 s2 q2
        replace h : LeafS (wd X) Wx F G (match objAt cl F.n0 ω rr with
          | some (k, o) => .nx (demO B d ρ) (stF cl f ω k o (.own d))
          | none => .stuck) := h
        cases z2 : objAt cl F.n0 ω rr with
        | none => rw [z2] at h; exact h.elim
        | some ko =>
          obtain ⟨k, o⟩ := ko
          rw [z2] at h
          -- the container is nobody's at H2
          have s12 : Same H H2 := s.trans s2
          have r2 : RepO (wd X) H2 (Fn L B a) (obs L) true d a := RepO.same s2 d a r
          have key : ∀ (ρ' : Env') (L' : Lc), Rel (wd X) F ρ' ω L' σ H → Kp H2 H2 (Fn L B a) (fun b => Fr L' [] b ∧ b ≠ a) (obs L) (obs L') → (∀ n, obs L' n = obs L n) → LeafS (wd X) Wx F G (.nx ρ' (stF cl f ω k o (.own d))) →
              ∃ a_1 C dx fs, w = .ref a_1 ∧ H2 a_1 = some (.ins C dx fs) ∧ Cls X.K C ∧ NoAttr X.K C f ∧ fs.length < 1000 ∧ G.nx σ (upd H2 a_1 (.ins C dx (putF f (.ref a) fs))) := by
            intro ρ' L' R' kp hob h
            have q3 : RepU (wd X) H2 (Fr L' []) (obs L') rr w := by
              obtain ⟨e1, _⟩ := objAt_some z2
              subst e1
              obtain ⟨b, e2, e3⟩ := q2
              exact ⟨b, by rw [hob]; exact e2, e3⟩
            obtain ⟨pa, C, dx, fs, h1, h2, h3, h4, h5, h6, h7, h8, h9⟩ := obj_read (B := []) (R'.same s12) z2 q3
            obtain ⟨T1, T2⟩ := T.ok C h3
            refine ⟨pa, C, dx, fs, h2, h4, T1, T2, h6, ?_⟩
            subst h9
            obtain ⟨p1, C1, dx1, fs1, f1, f2, f3, q1⟩ := (R'.st k o h8).at_
            have ep : p1 = pa := Option.some.inj (f1.symm.trans h1)
            subst ep
            have ei : HO.ins C1 dx1 fs1 = .ins C dx fs := Option.some.inj ((s12 _ _ f3).symm.trans h4)
            cases ei
            have kk : Kp H H2 (Fr L' []) (Fr (lcP L' (.fd k f) (some a)) []) (obs L') (obs (lcP L' (.fd k f) (some a))) :=
              ⟨fun b u g hb p e => by
                by_cases y : p = .fd k f
                · subst y
                  rw [lcP_eq] at e
                  cases e
                  rw [n] at hb; cases hb
                · rw [lcP_ne y] at e; exact g p e, fun b u _ h => s12 b u h, fun b xs h => s12 b _ h, fun n b h => by show lcP L' (.fd k f) (some a) (.ob n) = some b; rw [lcP_ne (fun y => by cases y)]; exact h⟩
            refine h _ _ _ (R'.putFd (oa := some a) s12 h7 h8 h1 h3 f3 q1 kk (fun b e => by cases e; exact ⟨n, isC_repO r2⟩) ⟨a, rfl, lcP_eq, ?_⟩)
            refine RepO.mono (S := fun b => Fr L' [] b ∧ b ≠ a) (ob := obs L') ⟨fun b u g _ p e => ?_, fun _ _ _ h => h, fun _ _ h => h, fun m b h => ?_⟩ (fun _ h => h) (fun _ h => h) (RepO.mono kp (fun _ h => h) (fun _ h => h) r2)
            · by_cases y : p = .fd k f
              · subst y
                rw [lcP_eq] at e
                cases e
                exact absurd rfl g.2
              · rw [lcP_ne y] at e; exact g.1 p e
            · show lcP L' (.fd k f) (some a) (.ob m) = some b
              rw [lcP_ne (fun y => by cases y)]; exact h
          replace h : LeafS (wd X) Wx F G (.nx (demO B d ρ) (stF cl f ω k o (.own d))) := h
          unfold demO at h
          by_cases hf : D.inFree d = true
          · rw [if_pos hf] at h
            have r3 : RepO (wd X) H2 (fun b => Fr L [] b ∧ b ≠ a) (obs L) true d a := inFree_repO hf r2
            -- its items are free: any places will do
            have q3 : RepU (wd X) H2 (Fr L []) (obs L) rr w := q2
            obtain ⟨pa, C, dx, fs, h1, h2, h3, h4, h5, h6, h7, h8, h9⟩ := obj_read (B := []) (R.same s12) z2 q3
            obtain ⟨T1, T2⟩ := T.ok C h3
            refine ⟨pa, C, dx, fs, h2, h4, T1, T2, h6, ?_⟩
            subst h9
            obtain ⟨p1, C1, dx1, fs1, f1, f2, f3, q1⟩ := (R.st k o h8).at_
            have ep : p1 = pa := Option.some.inj (f1.symm.trans h1)
            subst ep
            have ei : HO.ins C1 dx1 fs1 = .ins C dx fs := Option.some.inj ((s12 _ _ f3).symm.trans h4)
            cases ei
            have kk : Kp H H2 (Fr L []) (Fr (lcP L (.fd k f) (some a)) []) (obs L) (obs (lcP L (.fd k f) (some a))) :=
              ⟨fun b u g hb p e => by
                by_cases y : p = .fd k f
                · subst y
                  rw [lcP_eq] at e
                  cases e
                  rw [n] at hb; cases hb
                · rw [lcP_ne y] at e; exact g p e, fun b u _ h => s12 b u h, fun b xs h => s12 b _ h, fun n b h => by show lcP L (.fd k f) (some a) (.ob n) = some b; rw [lcP_ne (fun y => by cases y)]; exact h⟩
            refine h _ _ _ (R.putFd (oa := some a) s12 h7 h8 h1 h3 f3 q1 kk (fun b e => by cases e; exact ⟨n, isC_repO r2⟩) ⟨a, rfl, lcP_eq, ?_⟩)
            refine inFree_repO hf (RepO.mono (S := Fn L B a) (S' := Fn L B a) (ob := obs L) ⟨fun _ _ f _ => f, fun _ _ _ h => h, fun _ _ h => h, fun m b h => ?_⟩ (fun _ h => h) (fun _ h => h) r2)
            show lcP L (.fd k f) (some a) (.ob m) = some b
            rw [lcP_ne (fun y => by cases y)]; exact h
          · rw [if_neg hf] at h
            exact key _ _ (R.demote B) ⟨fun b u f _ => ⟨f.1.dem, f.2⟩, fun _ _ _ h => h, fun _ _ h => h, fun n b h => h⟩ (fun _ => rfl) h⟩⟩
theorem Rel.loosenP {W : Wd} {F : Fm} {ρ : Env'} {ω : Store} {L : Lc} {σ : L2.St} {H : Hp} (R : Rel W F ρ ω L σ H) {B : List Nat} {d : D} {v : V} (r : Rep W H (Fr L B) (obs L) d v) : ∃ L', Rel W F (dem B d ρ) ω L' σ H ∧ Rep W H (Fr L' []) (obs L') d v ∧ ∀ q, (∀ i, q ≠ .sl i) → L' q = L q := by
  unfold dem
  split
  · rename_i f
    exact ⟨L, R, D.free_rep d v f r, fun _ _ => rfl⟩
  · refine ⟨_, R.demote B, Rep.mono (kp_dem (W := W)) d v r, fun q h => ?_⟩
    cases q with
    | sl i => exact absurd rfl (h i)
    | fd n f => rfl
    | ob n => rfl
    | fg a => rfl
/-! ### o.f.append(e) -/
/-- the field's own container -/
def ownF (cl f : Str) (n0 : Nat) (ω : Store) (r : D) : Option (Nat × Ob × D) := match objAt cl n0 ω r with
  | some (k, o) => (match o.fs.lookup f with
    | some (.own d) => some (k, o, d)
    | _ => none)
  | none => none
theorem ownF_some {n0 : Nat} {ω : Store} {r d : D} {k : Nat} {o : Ob} (h : ownF cl f n0 ω r = some (k, o, d)) : objAt cl n0 ω r = some (k, o) ∧ o.fs.lookup f = some (.own d) := by
  unfold ownF at h
  cases z : objAt cl n0 ω r with
  | none => rw [z] at h; cases h
  | some ko =>
    obtain ⟨k', o'⟩ := ko
    rw [z] at h
    dsimp only at h
    split at h
    · rename_i d' e
      cases h
      exact ⟨rfl, e⟩
    · cases h
@[simp] noncomputable def sAppF (cl f : Str) (B : List Nat) (mo m : M) : T := fun n0 ρ ω => match mo ρ ω with
  | .ok r => (match ownF cl f n0 ω r with
    | some (k, o, .lst xs) => ofE (m ρ ω) ω fun d => @ite _ (xs.length < 1000000) (Classical.propDecidable _) (.nx (dem B d ρ) (stF cl f ω k o (.own (.lst (xs ++ [d]))))) .stuck
    | _ => .stuck)
  | _ => .stuck
theorem own_read {W : Wd} {F : Fm} {ρ : Env'} {ω : Store} {L : Lc} {σ : L2.St} {H : Hp} {B : List Nat} {r d : D} {v : V} {k : Nat} {o : Ob} {n0 : Nat} (R : Rel W F ρ ω L σ H) (h : ownF cl f n0 ω r = some (k, o, d)) (q : RepU W H (Fr L B) (obs L) r v) :
    ∃ pa C dx fs b, L (.ob k) = some pa ∧ v = .ref pa ∧ W.mg cl = some (.ref C) ∧ H pa = some (.ins C dx fs) ∧ fs.lookup f = some (.ref b) ∧ L (.fd k f) = some b ∧ RepO W H (Fr L []) (obs L) (decide (F.n0 ≤ k)) d b ∧ n0 ≤ k ∧ ω[k]? = some o ∧ o.cls = cl ∧ o.fs.lookup f = some (.own d) := by
  obtain ⟨e1, e2⟩ := ownF_some h
  obtain ⟨pa, C, dx, fs, h1, h2, h3, h4, h5, h6, h7, h8, h9⟩ := obj_read R e1 q
  obtain ⟨v1, l1, a, e3, e4, e5⟩ := h5.get e2
  cases e3
  exact ⟨pa, C, dx, fs, a, h1, h2, h3, h4, l1, e4, e5, h7, h8, h9, e2⟩
theorem s_appF (T : FldOk X cl f) (ho : DU X Wx [] o mo) (he : DP X Wx B e m)
    (hb : attributeBase o f X.env (eval o X.env) = eval o X.env := by rfl)
    (hbase : attributeBase (.Attribute o f p) "append" X.env (eval (.Attribute o f p) X.env) = eval (.Attribute o f p) X.env := by rfl)
    (hfew : ((backTo cpos (starEach (e :: []) X.env)).all (fun x => !x.1) && (backToKw cpos (keywordEach [] X.env)).all (fun x => x.1.isSome)
      && decide ((e :: ([] : List Expr)).length + ([] : List Keyword).length + (if ([] : List Keyword).isEmpty then 0 else 1) < 30)) = true := by rfl)
    (hline : (apos.endLine == cpos.line) = true := by rfl) (hs : starEach (e :: []) X.env = (false, eval e X.env) :: starEach [] X.env := by rfl) (hplain : (backTo cpos (starEach [] X.env)).any (·.1) = false := by rfl)
    (hsw : swapsWith (.Call (.Attribute (.Attribute o f p) "append" apos) [e] [] cpos) none pos.line X.env = pure false := by rfl) :
    DS X Wx (.Expr (.Call (.Attribute (.Attribute o f p) "append" apos) [e] [] cpos) pos) (sAppF cl f B mo m) :=
  ⟨PS.weak (ps_expr (pe_bm PySem.F.plainAttrs_list PySem.F.slot_list_append PySem.F.type_list_append mt_append (pe_fld ho.pe hb) (pa_cons he.pe pa_nil hs) hbase hfew hline hs hplain) hsw) fun G σ H ⟨F, ρ, ω, L, R, h⟩ => by
    refine ⟨F, ρ, ω, L, R, ?_⟩
    unfold sAppF at h
    cases z : mo ρ ω with
    | stuck => rw [z] at h; exact h
    | err e => rw [z] at h; exact h.elim
    | ok r =>
      rw [z] at h
      intro w H1 s1 q1
      replace h : LeafS (wd X) Wx F G (match ownF cl f F.n0 ω r with
        | some (k, o, .lst xs) => ofE (m ρ ω) ω fun d => @ite _ (xs.length < 1000000) (Classical.propDecidable _) (.nx (dem B d ρ) (stF cl f ω k o (.own (.lst (xs ++ [d]))))) .stuck
        | _ => .stuck) := h
      split at h
      · rename_i k o xs z2
        have R1 := R.same s1
        obtain ⟨pa, C, dx, fs, b, h1, h2, h3, h4, h5, h6, h7, h8, h9, h10, h11⟩ := own_read R1 z2 q1
        obtain ⟨T1, T2⟩ := T.ok C h3
        obtain ⟨vs0, hb0, _⟩ := h7
        refine ⟨pa, C, dx, fs, .ref b, h2, h4, T1, T2, h5, .inl ⟨rfl, vs0, SqL.of hb0⟩, F, ρ, ω, L, R1, leafS_bind (k := fun d => @ite _ (xs.length < 1000000) (Classical.propDecidable _) (.nx (dem B d ρ) (stF cl f ω k o (.own (.lst (xs ++ [d]))))) .stuck) R1 h fun d v H2 _ s2 R2 q l => ?_⟩
        split at l
        · rename_i hlen
          obtain ⟨L2, R3, q3, hL2⟩ := R2.loosenP q
          obtain ⟨p1, C1, dx1, fs1, f1, f2, f3, qf⟩ := (R3.st k o h9).at_
          obtain ⟨v1, l1, a1, e3, e4, vs, hv, rv⟩ := qf.get h11
          have eb : a1 = b := by
            rw [hL2 _ (fun i y => by cases y), h6] at e4
            exact (Option.some.inj e4).symm
          subst eb
          subst h10
          have kp := kp_poke (B := []) R3 (u := .lst (vs ++ [v])) e4 (fun _ => .inr rfl) rfl
          refine ⟨a1, vs, v, rfl, rfl, hv, by rw [rv.len, sizeLine_eq]; omega, l _ _ L2 (R3.pokeF h8 h9 e4 h11 rfl ⟨vs ++ [v], upd_same, ?_⟩)⟩
          exact (Reps.mono kp _ _ rv).app (Reps.one (Rep.mono kp _ _ q3))
        · exact l.elim
      · exact h.elim⟩
/-! ### dicts -/
def putD {κ : Type} [DecidableEq κ] (kvs : List (κ × D)) (k : κ) (d : D) : List (κ × D) := if (kvs.any fun kv => decide (kv.1 = k)) = true then kvs.map (fun kv => if kv.1 = k then (kv.1, d) else kv) else kvs ++ [(k, d)]
def dropD {κ : Type} [DecidableEq κ] (kvs : List (κ × D)) (k : κ) : List (κ × D) := kvs.filter fun kv => decide (kv.1 ≠ k)
theorem repK_app {W : Wd} {H : Hp} {S : Addr → Prop} {ob : Nat → Option Addr} : ∀ {a b : List (Key × D)} {u w : List (Key × V)}, RepK W H S ob a u → RepK W H S ob b w → RepK W H S ob (a ++ b) (u ++ w)
  | [], _, _, _, h, h' => by rw [show _ = [] from h]; exact h'
  | (k, d) :: a, _, _, _, ⟨v, t, e, p, q⟩, h' => by subst e; exact ⟨v, _, rfl, p, repK_app q h'⟩
theorem repK_any {W : Wd} {H : Hp} {S : Addr → Prop} {ob : Nat → Option Addr} {k : Key} : ∀ {a : List (Key × D)} {u : List (Key × V)}, RepK W H S ob a u → (u.any fun kv => decide (kv.1 = k)) = (a.any fun kv => decide (kv.1 = k))
  | [], _, h => by rw [show _ = [] from h]; rfl
  | (x, d) :: a, _, ⟨v, t, e, p, q⟩ => by subst e; rw [List.any_cons, List.any_cons, repK_any q]
theorem repK_set {W : Wd} {H : Hp} {S : Addr → Prop} {ob : Nat → Option Addr} {k : Key} {d : D} {v : V} (r : Rep W H S ob d v) : ∀ {a : List (Key × D)} {u : List (Key × V)}, RepK W H S ob a u → RepK W H S ob (a.map fun kv => if kv.1 = k then (kv.1, d) else kv) (u.map fun kv => if kv.1 = k then (kv.1, v) else kv)
  | [], _, h => by rw [show _ = [] from h]; rfl
  | (x, d0) :: a, _, ⟨v0, t, e, p, q⟩ => by
    subst e
    rw [List.map_cons, List.map_cons]
    by_cases z : x = k
    · rw [if_pos z, if_pos z]
      exact ⟨v, _, rfl, r, repK_set r q⟩
    · rw [if_neg z, if_neg z]
      exact ⟨v0, _, rfl, p, repK_set r q⟩
theorem repK_put {W : Wd} {H : Hp} {S : Addr → Prop} {ob : Nat → Option Addr} {k : Key} {d : D} {v : V} {a : List (Key × D)} {u : List (Key × V)} (h : RepK W H S ob a u) (r : Rep W H S ob d v) : RepK W H S ob (putD a k d) (putK u k v) := by
  unfold putD putK
  rw [repK_any h]
  split
  · exact repK_set r h
  · exact repK_app h ⟨v, [], rfl, r, rfl⟩
theorem repK_drop {W : Wd} {H : Hp} {S : Addr → Prop} {ob : Nat → Option Addr} {k : Key} : ∀ {a : List (Key × D)} {u : List (Key × V)}, RepK W H S ob a u → RepK W H S ob (dropD a k) (dropK u k)
  | [], _, h => by rw [show _ = [] from h]; rfl
  | (x, d) :: a, _, ⟨v, t, e, p, q⟩ => by
    subst e
    have ih := repK_drop (k := k) q
    unfold dropD dropK at ih ⊢
    rw [List.filter_cons, List.filter_cons]
    by_cases z : x = k
    · rw [if_neg (by simp [z]), if_neg (by simp [z])]; exact ih
    · rw [if_pos (by simp [z]), if_pos (by simp [z])]; exact ⟨v, _, rfl, p, ih⟩
theorem repT_app {W : Wd} {H : Hp} {S : Addr → Prop} {ob : Nat → Option Addr} : ∀ {a b : List (List Key × D)} {u w : List (List Key × V)}, RepT W H S ob a u → RepT W H S ob b w → RepT W H S ob (a ++ b) (u ++ w)
  | [], _, _, _, h, h' => by rw [show _ = [] from h]; exact h'
  | (k, d) :: a, _, _, _, ⟨v, t, e, p, q⟩, h' => by subst e; exact ⟨v, _, rfl, p, repT_app q h'⟩
theorem repT_any {W : Wd} {H : Hp} {S : Addr → Prop} {ob : Nat → Option Addr} {k : List Key} : ∀ {a : List (List Key × D)} {u : List (List Key × V)}, RepT W H S ob a u → (u.any fun kv => decide (kv.1 = k)) = (a.any fun kv => decide (kv.1 = k))
  | [], _, h => by rw [show _ = [] from h]; rfl
  | (x, d) :: a, _, ⟨v, t, e, p, q⟩ => by subst e; rw [List.any_cons, List.any_cons, repT_any q]
theorem repT_set {W : Wd} {H : Hp} {S : Addr → Prop} {ob : Nat → Option Addr} {k : List Key} {d : D} {v : V} (r : Rep W H S ob d v) : ∀ {a : List (List Key × D)} {u : List (List Key × V)}, RepT W H S ob a u → RepT W H S ob (a.map fun kv => if kv.1 = k then (kv.1, d) else kv) (u.map fun kv => if kv.1 = k then (kv.1, v) else kv)
  | [], _, h => by rw [show _ = [] from h]; rfl
  | (x, d0) :: a, _, ⟨v0, t, e, p, q⟩ => by
    subst e
    rw [List.map_cons, List.map_cons]
    by_cases z : x = k
    · rw [if_pos z, if_pos z]
      exact ⟨v, _, rfl, r, repT_set r q⟩
    · rw [if_neg z, if_neg z]
      exact ⟨v0, _, rfl, p, repT_set r q⟩
theorem repT_put {W : Wd} {H : Hp} {S : Addr → Prop} {ob : Nat → Option Addr} {k : List Key} {d : D} {v : V} {a : List (List Key × D)} {u : List (List Key × V)} (h : RepT W H S ob a u) (r : Rep W H S ob d v) : RepT W H S ob (putD a k d) (putK u k v) := by
  unfold putD putK
  rw [repT_any h]
  split
  · exact repT_set r h
  · exact repT_app h ⟨v, [], rfl, r, rfl⟩
theorem repT_len {W : Wd} {H : Hp} {S : Addr → Prop} {ob : Nat → Option Addr} : ∀ {ds : List (List Key × D)} {vs : List (List Key × V)}, RepT W H S ob ds vs → vs.length = ds.length
  | [], _, h => by rw [show _ = [] from h]; rfl
  | (k, d) :: ds, _, h => by
    obtain ⟨v, r, e, p, q⟩ := h
    rw [e, List.length_cons, List.length_cons, repT_len q]
/-- a container with one entry more -/
noncomputable def gPut (c y d : D) : Option D := match c, y with
  | .dK kvs, y => (match D.flatK y with
    | some k => @ite _ (kvs.length < 1000000) (Classical.propDecidable _) (some (.dK (putD kvs k d))) none
    | none => none)
  | .dT kvs, .tup ks => (match D.flatKs ks with
    | some k => @ite _ (kvs.length < 1000000) (Classical.propDecidable _) (some (.dT (putD kvs k d))) none
    | none => none)
  | _, _ => none
/-- the store at an owned dict -/
theorem put_read {W : Wd} {H : Hp} {S S' : Addr → Prop} {ob : Nat → Option Addr} {c y d c' : D} {b : Addr} {v w : V} (hc : RepO W H S ob true c b) (hy : RepU W H S' ob y w) (h : gPut c y d = some c') :
    ∃ u, isC u = true ∧ DPut H b w v (upd H b u) ∧ ∀ (S2 : Addr → Prop), (Kp H (upd H b u) S S2 ob ob) → Rep W (upd H b u) S2 ob d v → RepO W (upd H b u) S2 ob true c' b := by
  unfold gPut at h
  split at h
  · rename_i kvs _
    split at h
    · rename_i k hk
      split at h
      · rename_i hl
        cases h
        obtain ⟨vs, ha, r⟩ := hc
        have hb := ha.1 rfl
        have hw := flatK_ok hk hy
        refine ⟨.dK (putK vs k v), rfl, ?_, fun S2 kp rv => ⟨_, .of upd_same, repK_put (RepK.mono kp _ _ r) rv⟩⟩
        rw [hw]
        exact DPut.k hb (by rw [repK_len r, sizeLine_eq]; omega)
      · cases h
    · cases h
  · rename_i kvs ks
    split at h
    · rename_i k hk
      split at h
      · rename_i hl
        cases h
        obtain ⟨vs, ha, r⟩ := hc
        have hb := ha.1 rfl
        obtain ⟨a2, us, e2, h2, r2⟩ := hy
        subst e2
        refine ⟨.dT (putK vs k v), rfl, ?_, fun S2 kp rv => ⟨_, .of upd_same, repT_put (RepT.mono kp _ _ r) rv⟩⟩
        exact DPut.t hb (by rw [h2, flatKs_ok hk r2]) (by rw [repT_len r, sizeLine_eq]; omega)
      · cases h
    · cases h
  · cases h
/-- name[k] = e, name's own dict -/
@[simp] noncomputable def sPut (i : Nat) (B : List Nat) (mk m : M) : T := fun _ ρ ω => ofE (m ρ ω) ω fun d => match mk (dem B d ρ) ω with
  | .ok y => (match (dem B d ρ)[i]? with
    | some (.own c) => (match gPut c y d with
      | some c' => .nx ((dem B d ρ).set i (.own c')) ω
      | none => .stuck)
    | _ => .stuck)
  | _ => .stuck
theorem s_put (i : Nat) (hu : X.A.units + 64 < cLine) (hk : DU X Wx Bk kx mk) (he : DP X Wx B e m) (hN : X.N[i]? = some x := by rfl) (hv : Vis X.env.scope x := by first | exact Or.inl rfl | exact Or.inr (Or.inl rfl) | exact Or.inr (Or.inr rfl)) (hd : (x == ("__debug__" : Str)) = false := by decide)
    (hcd : (x == ("__classdict__" : Str)) = false := by decide) (hs : swapsWith e (some (.Subscript (.Name x p) kx pos')) pos.line X.env = pure false := by rfl) : DS X Wx (.Assign [.Subscript (.Name x p) kx pos'] e pos) (sPut i B mk m) :=
  ⟨PS.weak (ps_dput (by omega) (pe_var (i := i) hN hv hd hcd) hk.pe he.pe hs) fun G σ H ⟨F, ρ, ω, L, R, h⟩ => ⟨F, ρ, ω, L, R, leafS_bind (k := fun d => match mk (dem B d ρ) ω with
  | .ok y => (match (dem B d ρ)[i]? with
    | some (.own c) => (match gPut c y d with
      | some c' => .nx ((dem B d ρ).set i (.own c')) ω
      | none => .stuck)
    | _ => .stuck)
  | _ => .stuck) R h fun d v H1 _ s1 R1 q l => by
    obtain ⟨L2, R2, q2⟩ := R1.loosen q
    cases z : mk (dem B d ρ) ω with
    | stuck => rw [z] at l; exact l.elim
    | err e => rw [z] at l; exact l.elim
    | ok y =>
      rw [z] at l
      dsimp only at l
      split at l
      · rename_i c ei
        obtain ⟨b, f1, l2, r2⟩ := R2.sl i _ ei
        refine ⟨.ref b, slot_at f1, F, dem B d ρ, ω, L2, R2, ?_⟩
        rw [z]
        intro w H2 s2 qk
        have R3 := R2.same s2
        obtain ⟨b', f1', l2', r3⟩ := R3.sl i _ ei
        have eb : b' = b := Option.some.inj (l2'.symm.trans l2)
        subst eb
        cases z2 : gPut c y d with
        | none => rw [z2] at l; exact l.elim
        | some c' =>
          rw [z2] at l
          obtain ⟨u, hu', hp, fin⟩ := put_read (v := v) r3 qk z2
          have kp := kp_poke (B := []) R3 (u := u) l2 (fun _ => .inr rfl) hu'
          exact ⟨b', _, rfl, hp, l _ _ L2 (R3.pokeS l2 hu' f1' (fin _ kp (Rep.mono kp _ _ (q2.same s2))))⟩
      · exact l.elim⟩⟩
/-- o.f[k] = e, the field's own dict -/
@[simp] noncomputable def sPutF (cl f : Str) (B : List Nat) (mo mk m : M) : T := fun n0 ρ ω => ofE (m ρ ω) ω fun d => match mo (dem B d ρ) ω with
  | .ok r => (match ownF cl f n0 ω r with
    | some (k, o, c) => (match mk (dem B d ρ) ω with
      | .ok y => (match gPut c y d with
        | some c' => .nx (dem B d ρ) (stF cl f ω k o (.own c'))
        | none => .stuck)
      | _ => .stuck)
    | none => .stuck)
  | _ => .stuck
theorem s_putF (hu : X.A.units + 64 < cLine) (T : FldOk X cl f) (ho : DU X Wx Bo o mo) (hk : DU X Wx Bk kx mk) (he : DP X Wx B e m) (hb : attributeBase o f X.env (eval o X.env) = eval o X.env := by rfl)
    (hs : swapsWith e (some (.Subscript (.Attribute o f p) kx pos')) pos.line X.env = pure false := by rfl) : DS X Wx (.Assign [.Subscript (.Attribute o f p) kx pos'] e pos) (sPutF cl f B mo mk m) :=
  ⟨PS.weak (ps_dput (by omega) (pe_fld ho.pe hb) hk.pe he.pe hs) fun G σ H ⟨F, ρ, ω, L, R, h⟩ => ⟨F, ρ, ω, L, R, leafS_bind (k := fun d => match mo (dem B d ρ) ω with
  | .ok r => (match ownF cl f F.n0 ω r with
    | some (k, o, c) => (match mk (dem B d ρ) ω with
      | .ok y => (match gPut c y d with
        | some c' => .nx (dem B d ρ) (stF cl f ω k o (.own c'))
        | none => .stuck)
      | _ => .stuck)
    | none => .stuck)
  | _ => .stuck) R h fun d v H1 _ s1 R1 q l => by
    obtain ⟨L2, R2, q2⟩ := R1.loosen q
    refine ⟨F, dem B d ρ, ω, L2, R2, ?_⟩
    cases z : mo (dem B d ρ) ω with
    | stuck => rw [z] at l; exact l.elim
    | err e => rw [z] at l; exact l.elim
    | ok r =>
      rw [z] at l
      intro wv H2 s2 qo
      dsimp only at l
      cases z2 : ownF cl f F.n0 ω r with
      | none => rw [z2] at l; exact l.elim
      | some koc =>
        obtain ⟨k, o, c⟩ := koc
        rw [z2] at l
        dsimp only at l
        have R3 := R2.same s2
        obtain ⟨pa, C, dx, fs, b, h1, h2, h3, h4, h5, h6, h7, h8, h9, h10, h11⟩ := own_read R3 z2 qo
        obtain ⟨T1, T2⟩ := T.ok C h3
        refine ⟨pa, C, dx, fs, .ref b, h2, h4, T1, T2, h5, F, dem B d ρ, ω, L2, R3, ?_⟩
        cases z3 : mk (dem B d ρ) ω with
        | stuck => rw [z3] at l; exact l.elim
        | err e => rw [z3] at l; exact l.elim
        | ok y =>
          rw [z3] at l
          intro w H3 s3 qk
          dsimp only at l
          cases z4 : gPut c y d with
          | none => rw [z4] at l; exact l.elim
          | some c' =>
            rw [z4] at l
            subst h10
            have R4 := R3.same s3
            have h7' := RepO.same s3 c b h7
            rw [decide_eq_true h8] at h7'
            obtain ⟨u, hu', hp, fin⟩ := put_read (v := v) h7' qk z4
            have kp := kp_poke (B := []) R4 (u := u) h6 (fun _ => .inr rfl) hu'
            exact ⟨b, _, rfl, hp, l _ _ L2 (R4.pokeF h8 h9 h6 h11 hu' (fin _ kp (Rep.mono kp _ _ ((q2.same s2).same s3))))⟩⟩⟩
/-! ### d.get(k, x) -/
@[simp] def gGet2 (x y z : D) : Res D := match dget x y with
  | some (some d) => .ok d
  | some none => .ok z
  | none => .stuck
theorem isD_of {W : Wd} {H : Hp} {S : Addr → Prop} {ob : Nat → Option Addr} {x y : D} {v : V} {o : Option D} (p : RepU W H S ob x v) (e : dget x y = some o) : ∃ a, v = .ref a ∧ IsD H a := by
  cases x with
  | dK kvs => obtain ⟨a, vs, e1, h1, _⟩ := p; exact ⟨a, e1, .inl ⟨vs, h1⟩⟩
  | dT kvs => obtain ⟨a, vs, e1, h1, _⟩ := p; exact ⟨a, e1, .inr ⟨vs, h1⟩⟩
  | _ => cases y <;> cases e
@[simp] def isDct : D → Bool
  | .dK _ => true
  | .dT _ => true
  | _ => false
theorem isDct_ok {W : Wd} {H : Hp} {S : Addr → Prop} {ob : Nat → Option Addr} {x : D} {v : V} (h : isDct x = true) (p : RepU W H S ob x v) : ∃ a, v = .ref a ∧ IsD H a := by
  cases x with
  | dK kvs => obtain ⟨a, vs, e1, h1, _⟩ := p; exact ⟨a, e1, .inl ⟨vs, h1⟩⟩
  | dT kvs => obtain ⟨a, vs, e1, h1, _⟩ := p; exact ⟨a, e1, .inr ⟨vs, h1⟩⟩
  | _ => cases h
@[simp] def mGet2 (ma mb mc : M) : M := fun ρ ω => (ma ρ ω).bind fun x => if isDct x = true then (mb ρ ω).bind fun y => (mc ρ ω).bind fun z => gGet2 x y z else .stuck
theorem d_get2 {Bc : List Nat} {mc : M} (hu : X.A.units + 64 < cLine) (ha : DU X Wx Ba a ma) (hb : DU X Wx Bb b mb) (hc : DP X Wx Bc c mc) (hm : M2 X a "get" apos b c cpos := by exact ⟨rfl, rfl, rfl, rfl⟩) : DP X Wx (Ba ++ (Bb ++ Bc)) (.Call (.Attribute a "get" apos) [b, c] [] cpos) (mGet2 ma mb mc) :=
  ⟨PE.weak (pe_dget2 (by omega) ha.pe hb.pe hc.pe hm) fun σ H Q ⟨F, ρ, ω, L, R, h⟩ => by
    have sB : ∀ i ∈ Bb, i ∈ Ba ++ (Bb ++ Bc) := fun i h => List.mem_append_right _ (List.mem_append_left _ h)
    have sC : ∀ i ∈ Bc, i ∈ Ba ++ (Bb ++ Bc) := fun i h => List.mem_append_right _ (List.mem_append_right _ h)
    refine part1 (B := Ba ++ (Bb ++ Bc)) (k := fun x => if isDct x = true then (mb ρ ω).bind fun y => (mc ρ ω).bind fun z => gGet2 x y z else .stuck) subl R h fun v H1 x s1 R1 p l1 => ?_
    split at l1
    case isFalse => exact l1.elim
    rename_i hx
    obtain ⟨a1, e1, d1⟩ := isDct_ok hx p
    refine ⟨a1, e1, d1, ?_⟩
    refine part1 (B := Ba ++ (Bb ++ Bc)) (k := fun y => (mc ρ ω).bind fun z => gGet2 x y z) sB R1 l1 fun w H2 y s2 R2 q l2 => ?_
    refine ⟨F, ρ, ω, L, R2, ?_⟩
    cases z : mc ρ ω with
    | stuck => rw [z] at l2; exact l2
    | err e => rw [z] at l2; exact l2
    | ok d =>
      rw [z] at l2
      intro u H3 s3 r
      replace l2 : Leaf (wd X) Wx L (Ba ++ (Bb ++ Bc)) σ H2 Q (gGet2 x y d) := l2
      have l3 := l2.to s3 subid fun _ _ q => q
      have p3 := (p.same s2).same s3
      have q3 := q.same s3
      unfold gGet2 at l3
      cases eg : dget x y with
      | none => rw [eg] at l3; exact l3.elim
      | some o =>
        rw [eg] at l3
        obtain ⟨a2, zz, f1, f2, f3⟩ := dget_ok p3 q3 eg
        have ea : a2 = a1 := V.ref.inj (f1.symm.trans e1)
        subst ea
        refine ⟨zz, f2, ?_⟩
        cases o with
        | some d' =>
          obtain ⟨v', e3, r'⟩ := f3
          rw [e3]
          exact l3.ret r'
        | none =>
          have e3 : zz = none := f3
          rw [e3]
          exact l3.ret (r.wide sC)⟩
/-! ### o.f.pop(k), dropped -/
@[simp] def gPopK (c y : D) : Option D := match c with
  | .dK kvs => (match D.flatK y with
    | some k => (match kget kvs k with
      | some _ => some (.dK (dropD kvs k))
      | none => none)
    | none => none)
  | _ => none
@[simp] def sPopF (cl f : Str) (mo mk : M) : T := fun n0 ρ ω => match mo ρ ω with
  | .ok r => (match ownF cl f n0 ω r with
    | some (k, o, c) => (match mk ρ ω with
      | .ok y => (match gPopK c y with
        | some c' => .nx ρ (stF cl f ω k o (.own c'))
        | none => .stuck)
      | _ => .stuck)
    | none => .stuck)
  | _ => .stuck
theorem s_popF (T : FldOk X cl f) (ho : DU X Wx Bo o mo) (hk : DU X Wx Bk kx mk) (hb : attributeBase o f X.env (eval o X.env) = eval o X.env := by rfl) (hm : M1 X (.Attribute o f p) "pop" apos kx cpos := by exact ⟨rfl, rfl, rfl, rfl⟩)
    (hsw : swapsWith (.Call (.Attribute (.Attribute o f p) "pop" apos) [kx] [] cpos) none pos.line X.env = pure false := by rfl) : DS X Wx (.Expr (.Call (.Attribute (.Attribute o f p) "pop" apos) [kx] [] cpos) pos) (sPopF cl f mo mk) :=
  ⟨PS.weak (ps_expr (pe_dpop1 (pe_fld ho.pe hb) hk.pe hm) hsw) fun G σ H ⟨F, ρ, ω, L, R, l⟩ => by
    refine ⟨F, ρ, ω, L, R, ?_⟩
    unfold sPopF at l
    cases z : mo ρ ω with
    | stuck => rw [z] at l; exact l
    | err e => rw [z] at l; exact l.elim
    | ok r =>
      rw [z] at l
      intro wv H2 s2 qo
      dsimp only at l
      cases z2 : ownF cl f F.n0 ω r with
      | none => rw [z2] at l; exact l.elim
      | some koc =>
        obtain ⟨k, o, c⟩ := koc
        rw [z2] at l
        dsimp only at l
        have R3 := R.same s2
        obtain ⟨pa, C, dx, fs, b, h1, h2, h3, h4, h5, h6, h7, h8, h9, h10, h11⟩ := own_read R3 z2 qo
        obtain ⟨T1, T2⟩ := T.ok C h3
        cases z3 : mk ρ ω with
        | stuck => rw [z3] at l; exact l.elim
        | err e => rw [z3] at l; exact l.elim
        | ok y =>
          rw [z3] at l
          dsimp only at l
          cases z4 : gPopK c y with
          | none => rw [z4] at l; exact l.elim
          | some c' =>
            rw [z4] at l
            unfold gPopK at z4
            split at z4
            · rename_i kvs
              split at z4
              · rename_i ky hky
                split at z4
                · rename_i d0 hget
                  cases z4
                  rw [decide_eq_true h8] at h7
                  obtain ⟨vs, ha, rr⟩ := h7
                  have hb0 := ha.1 rfl
                  refine ⟨pa, C, dx, fs, .ref b, h2, h4, T1, T2, h5, b, rfl, .inl ⟨vs, .inl hb0⟩, F, ρ, ω, L, R3, ?_⟩
                  rw [z3]
                  intro w H3 s3 qk
                  subst h10
                  have R4 := R3.same s3
                  have g := repK_get (W := wd X) (H := H2) ky rr
                  rw [hget] at g
                  obtain ⟨v0, g1, _⟩ := g
                  refine ⟨vs, ky, v0, s3 _ _ hb0, flatK_ok hky qk, g1, ?_⟩
                  have kp := kp_poke (B := []) R4 (u := .dK (dropK vs ky)) h6 (fun _ => .inr rfl) rfl
                  exact l _ _ L (R4.pokeF h8 h9 h6 h11 rfl ⟨_, .of upd_same, RepK.mono kp _ _ (repK_drop (RepK.mono (Kp.same s3) _ _ rr))⟩)
                · cases z4
              · cases z4
            · cases z4⟩
end
end DL
namespace DL
open PySem PySem.Spec PySem.Calls PyProof.Rows L2

/-! ### a comprehension over a dict's keys -/
structure WalksH (W : Wd) (J : It) (xs : List D) (PP : Hp → Prop) : Prop where
  go : ∀ i H, PP H → i < xs.length → J.go i H
  yld : ∀ i H x H', PP H → J.yld i H x H' → i < xs.length → Same H H' ∧ ∃ d, xs[i]? = some d ∧ ∀ S ob, Rep W H' S ob d x
  stop : ∀ i H, PP H → xs.length ≤ i → J.stop i H
  same : ∀ H H', PP H → Same H H' → PP H'
  hole : ∀ H z l ys, PP H → H z = some (.lst l) → PP (upd H z (.lst ys))
theorem lc_readH {W : Wd} {Wx : WX} {Bi Be : List Nat} {i : Nat} {tt : Env' → Store → Res Bool} {me : M} {F : Fm} {ρ : Env'} {ω : Store} {L : Lc} {σ : L2.St} {H : Hp} {Q : VK} {J : It} {xs : List D} {PP : Hp → Prop} (R : Rel W F ρ ω L σ H) (hl : i < ρ.length) (hlen : xs.length ≤ 1000) (w : WalksH W J xs PP) (p0 : PP H)
    (h : LeafF W Wx L (i :: (Bi ++ Be)) σ H Q ((compL i tt me ω (demote Bi ρ) xs).bind fun ys => .ok (.lst ys))) (z : Addr) (hz : H z = none) :
    ∃ Wv : Nat → Nat → Hp → Prop, (∃ m, Wv 0 m (upd H z (.lst []))) ∧ ∀ k m H2, Wv k m H2 →
      (J.stop k H2 ∧ Q (.ref z) H2) ∨ (J.go k H2 ∧ ∃ Nx : Hp → Prop, (∀ H', Nx H' → ∃ m', m' < m ∧ Wv (k + 1) m' H') ∧ ∀ x H', J.yld k H2 x H' → gName i x (L2.wipe σ [i]) H' fun σ2 H2 => L2.wipe σ2 [i] = L2.wipe σ [i] ∧ tT W W0 tt σ2 H2 fun b H3 =>
        if b = true then tP W W0 Be me σ2 H3 fun y H4 => ∃ acc, H4 z = some (.lst acc) ∧ acc.length < sizeLine ∧ Nx (upd H4 z (.lst (acc ++ [y]))) else Nx H3) := by
  have hl' : i < (demote Bi ρ).length := by rw [demote_len]; exact hl
  have R1 := ((R.demote Bi).wipe i).hole hz []
  have LD : lcH (lcD Bi L) z (.fg z) = some z := lcH_eq
  have p1 := w.same _ _ p0 (same_upd (o := .lst []) hz)
  -- the invariant
  refine ⟨fun k m H2 => m = xs.length - k ∧ k ≤ xs.length ∧ ∃ (F2 : Fm) (ys : List D) (acc : List V), Rel W F2 ((demote Bi ρ).set i .no) ω (lcH (lcD Bi L) z) (L2.wipe σ [i]) H2 ∧ PP H2 ∧ H2 z = some (.lst acc) ∧ acc.length ≤ k ∧ Same H H2 ∧
    Reps W H2 (Fn L (i :: (Bi ++ Be)) z) (obs L) ys acc ∧ LeafF W Wx L (i :: (Bi ++ Be)) σ H Q ((compL i tt me ω (demote Bi ρ) (xs.drop k)).bind fun r => .ok (.lst (ys ++ r))), ⟨xs.length, by simp, Nat.zero_le _, _, [], [], R1, p1, upd_same, Nat.le_refl _, same_upd hz, rfl, h⟩, ?_⟩
  rintro k m H2 ⟨rfl, hk, F2, ys, acc, R2, p2, hacc, hal, s2, racc, l2⟩
  by_cases hlt : k < xs.length
  · refine .inr ⟨w.go k H2 p2 hlt, fun H3 => ∃ (F3 : Fm) (ys : List D) (acc : List V), Rel W F3 ((demote Bi ρ).set i .no) ω (lcH (lcD Bi L) z) (L2.wipe σ [i]) H3 ∧ PP H3 ∧ H3 z = some (.lst acc) ∧ acc.length ≤ k + 1 ∧ Same H H3 ∧
      Reps W H3 (Fn L (i :: (Bi ++ Be)) z) (obs L) ys acc ∧ LeafF W Wx L (i :: (Bi ++ Be)) σ H Q ((compL i tt me ω (demote Bi ρ) (xs.drop (k + 1))).bind fun r => .ok (.lst (ys ++ r))), fun H3 q => ⟨xs.length - (k + 1), by omega, rfl, hlt, q⟩, fun v H3 y => ?_⟩
    obtain ⟨sm, d, ed, rd⟩ := w.yld k H2 v H3 p2 y hlt
    have ex : xs.drop k = d :: xs.drop (k + 1) := by
      rw [List.drop_eq_getElem_cons hlt]
      congr 1
      rw [List.getElem?_eq_getElem hlt] at ed
      exact Option.some.inj ed
    rw [ex] at l2
    have R3 := R2.same sm
    have p3 := w.same _ _ p2 sm
    have s3 := s2.trans sm
    have racc3 := racc.same sm
    have hacc3 := sm _ _ hacc
    have hlen2 : i < ((demote Bi ρ).set i Sl.no).length := by rw [List.length_set]; exact hl'
    have ew : L2.wipe ((L2.wipe σ [i]).set i (some v)) [i] = L2.wipe σ [i] := by
      show ((σ.set i none).set i (some v)).set i none = σ.set i none
      rw [set_set_eq, set_set_eq]
    refine ⟨ew, ?_⟩
    have e2 : ((demote Bi ρ).set i Sl.no).set i (.val d) = (demote Bi ρ).set i (.val d) := set_set_eq ..
    have R4 := R3.putVal hlen2 (rd _ _)
    rw [e2] at R4
    have kL : ∀ (H5 : Hp), Kp H5 H5 (Fr (lcS (lcH (lcD Bi L) z) i none) Be) (Fn L (i :: (Bi ++ Be)) z) (obs (lcS (lcH (lcD Bi L) z) i none)) (obs L) := fun H5 => by
      refine ⟨fun a u f _ => ?_, fun _ _ _ h => h, fun _ _ h => h, fun n a h => ?_⟩
      · have nz : a ≠ z := fun e => by
          subst e
          obtain ⟨j, _, q⟩ := f (.fg a) (by rw [lcS_ne (fun e => by cases e)]; exact lcH_eq)
          cases q
        refine ⟨fun p e => ?_, nz⟩
        by_cases hp : p = .sl i
        · exact ⟨i, List.mem_cons_self, hp⟩
        · by_cases hq : ∃ j, p = .sl j ∧ j ∈ Bi
          · obtain ⟨j, hj, mj⟩ := hq
            exact ⟨j, List.mem_cons_of_mem _ (List.mem_append_left _ mj), hj⟩
          · have hg : p ≠ .fg z := fun q => by
              subst q
              exact nz (R.fgs z a e)
            obtain ⟨j, mj, hj⟩ := f p (by
              rw [lcS_ne hp, lcH_ne hg]
              cases p with
              | sl j =>
                show (if j ∈ Bi then none else L (.sl j)) = _
                rw [if_neg (fun m => hq ⟨j, rfl, m⟩)]
                exact e
              | fd n f => exact e
              | ob n => exact e
              | fg b => exact e)
            exact ⟨j, List.mem_cons_of_mem _ (List.mem_append_right _ mj), hj⟩
      · have h : lcS (lcH (lcD Bi L) z) i none (.ob n) = some a := h
        rw [lcS_ne (fun e => by cases e), lcH_ne (fun e => by cases e)] at h
        exact h
    refine ⟨F2, _, ω, _, R4, ?_⟩
    replace l2 : LeafF W Wx L (i :: (Bi ++ Be)) σ H Q ((match tt ((demote Bi ρ).set i (.val d)) ω with
      | .ok true => (match me ((demote Bi ρ).set i (.val d)) ω with
        | .ok y => (compL i tt me ω (demote Bi ρ) (xs.drop (k + 1))).bind fun ys => .ok (y :: ys)
        | _ => .stuck)
      | .ok false => compL i tt me ω (demote Bi ρ) (xs.drop (k + 1))
      | _ => .stuck).bind fun r => .ok (.lst (ys ++ r))) := l2
    cases zt : tt ((demote Bi ρ).set i (.val d)) ω with
    | stuck => rw [zt] at l2; exact l2.elim
    | err e => rw [zt] at l2; exact l2.elim
    | ok b =>
      rw [zt] at l2
      intro H4 s4
      cases b with
      | false =>
        rw [if_neg Bool.false_ne_true]
        exact ⟨F2, ys, acc, R3.same s4, w.same _ _ p3 s4, s4 _ _ hacc3, Nat.le_succ_of_le hal, s3.trans s4, racc3.same s4, l2⟩
      | true =>
        rw [if_pos rfl]
        refine ⟨F2, _, ω, _, R4.same s4, ?_⟩
        replace l2 : LeafF W Wx L (i :: (Bi ++ Be)) σ H Q ((match me ((demote Bi ρ).set i (.val d)) ω with
        | .ok y => (compL i tt me ω (demote Bi ρ) (xs.drop (k + 1))).bind fun ys => .ok (y :: ys)
        | _ => .stuck).bind fun r => .ok (.lst (ys ++ r))) := l2
        cases zm : me ((demote Bi ρ).set i (.val d)) ω with
        | stuck => rw [zm] at l2; exact l2.elim
        | err e => rw [zm] at l2; exact l2.elim
        | ok y =>
          rw [zm] at l2
          intro yv H5 s5 ry
          have s45 := s4.trans s5
          have hacc5 := s45 _ _ hacc3
          refine ⟨acc, hacc5, by rw [sizeLine_eq]; omega, ?_⟩
          have k5 : Kp H5 (upd H5 z (.lst (acc ++ [yv]))) (Fn L (i :: (Bi ++ Be)) z) (Fn L (i :: (Bi ++ Be)) z) (obs L) (obs L) :=
            ⟨fun _ _ f _ => f, fun a u f h => by rw [upd_ne f.2]; exact h, fun a vs h => by rw [upd_ne (fun e => by rw [e, hacc5] at h; cases h)]; exact h, fun _ _ h => h⟩
          refine ⟨_, ys ++ [y], acc ++ [yv], (R3.same s45).chg LD hacc5, w.hole _ _ _ _ (w.same _ _ p3 s45) hacc5, upd_same, by rw [List.length_append]; exact Nat.succ_le_succ hal, Same.upd_left (Same.trans s3 s45) hz,
            Reps.mono k5 _ _ ((racc3.same s45).app (Reps.one (Rep.mono (kL H5) _ _ ry))), ?_⟩
          cases zc : compL i tt me ω (demote Bi ρ) (xs.drop (k + 1)) with
          | stuck => rw [zc] at l2; exact l2.elim
          | err e => rw [zc] at l2; exact l2
          | ok rs =>
            rw [zc] at l2
            show LeafF W Wx L (i :: (Bi ++ Be)) σ H Q (.ok (.lst (ys ++ [y] ++ rs)))
            rw [List.append_assoc]
            exact l2
  · have e : k = xs.length := by omega
    subst e
    refine .inl ⟨w.stop _ H2 p2 (Nat.le_refl _), ?_⟩
    rw [List.drop_length] at l2
    replace l2 : LeafF W Wx L (i :: (Bi ++ Be)) σ H Q (.ok (.lst (ys ++ []))) := l2
    rw [List.append_nil] at l2
    exact l2.ret s2 hz ⟨acc, hacc, racc⟩
theorem compL_ne {i : Nat} {tt : Env' → Store → Res Bool} {me : M} {ω : Store} {ρ : Env'} {e : Er} : ∀ {l : List D}, compL i tt me ω ρ l ≠ .err e
  | [] => fun h => by cases h
  | x :: r => fun h => by
    unfold compL at h
    split at h
    · split at h
      · have ih := compL_ne (i := i) (tt := tt) (me := me) (ω := ω) (ρ := ρ) (e := e) (l := r)
        cases z : compL i tt me ω ρ r with
        | stuck => rw [z] at h; cases h
        | err e' => exact absurd z (compL_ne (l := r))
        | ok ys => rw [z] at h; cases h
      · cases h
    · exact compL_ne (l := r) h
    · cases h
/-! a dict that is walked does not move -/
def dct : HO → Bool
  | .dK _ => true
  | .dT _ => true
  | _ => false
structure Kz (H H' : Hp) : Prop where
  l : ∀ a xs, H a = some (.lst xs) → H' a = some (.lst xs)
  t : ∀ a xs, H a = some (.tup xs) → H' a = some (.tup xs)
  i : ∀ a C dx fs, H a = some (.ins C dx fs) → H' a = some (.ins C dx fs)
  dk : ∀ a vs, Rd H a (.dK vs) → Rd H' a (.dK vs)
  dt : ∀ a vs, Rd H a (.dT vs) → Rd H' a (.dT vs)
mutual
theorem Rep.kz {W : Wd} {H H' : Hp} {S : Addr → Prop} {ob : Nat → Option Addr} (k : Kz H H') : ∀ (d : D) (v : V), Rep W H S ob d v → Rep W H' S ob d v
  | .non, v, h => h
  | .bl b, v, h => h
  | .int i, v, h => h
  | .str s, v, h => h
  | .lst xs, v, ⟨a, vs, e, s, r, q⟩ => ⟨a, vs, e, s, k.l _ _ r, Reps.kz k xs vs q⟩
  | .tup xs, v, ⟨a, vs, e, r, q⟩ => ⟨a, vs, e, k.t _ _ r, Reps.kz k xs vs q⟩
  | .ctup xs, v, ⟨a, vs, e, r, q⟩ => ⟨a, vs, e, r, Reps.kz k xs vs q⟩
  | .dK kvs, v, ⟨a, vs, e, s, r, q⟩ => ⟨a, vs, e, s, k.dk _ _ r, RepK.kz k kvs vs q⟩
  | .dT kvs, v, ⟨a, vs, e, s, r, q⟩ => ⟨a, vs, e, s, k.dt _ _ r, RepT.kz k kvs vs q⟩
  | .ins c fs, v, ⟨a, C, dx, fv, e, s, m, r, q⟩ => ⟨a, C, dx, fv, e, s, m, k.i _ _ _ _ r, RepF.kz k fs fv q⟩
  | .obj n, v, h => h
theorem Reps.kz {W : Wd} {H H' : Hp} {S : Addr → Prop} {ob : Nat → Option Addr} (k : Kz H H') : ∀ (ds : List D) (vs : List V), Reps W H S ob ds vs → Reps W H' S ob ds vs
  | [], _, h => h
  | d :: ds, _, ⟨v, r, e, p, q⟩ => ⟨v, r, e, Rep.kz k d v p, Reps.kz k ds r q⟩
theorem RepK.kz {W : Wd} {H H' : Hp} {S : Addr → Prop} {ob : Nat → Option Addr} (k : Kz H H') : ∀ (ds : List (Key × D)) (vs : List (Key × V)), RepK W H S ob ds vs → RepK W H' S ob ds vs
  | [], _, h => h
  | (x, d) :: ds, _, ⟨v, r, e, p, q⟩ => ⟨v, r, e, Rep.kz k d v p, RepK.kz k ds r q⟩
theorem RepT.kz {W : Wd} {H H' : Hp} {S : Addr → Prop} {ob : Nat → Option Addr} (k : Kz H H') : ∀ (ds : List (List Key × D)) (vs : List (List Key × V)), RepT W H S ob ds vs → RepT W H' S ob ds vs
  | [], _, h => h
  | (x, d) :: ds, _, ⟨v, r, e, p, q⟩ => ⟨v, r, e, Rep.kz k d v p, RepT.kz k ds r q⟩
theorem RepF.kz {W : Wd} {H H' : Hp} {S : Addr → Prop} {ob : Nat → Option Addr} (k : Kz H H') : ∀ (ds : List (Str × D)) (vs : List (Str × V)), RepF W H S ob ds vs → RepF W H' S ob ds vs
  | [], _, h => h
  | (x, d) :: ds, _, ⟨v, r, e, p, q⟩ => ⟨v, r, e, Rep.kz k d v p, RepF.kz k ds r q⟩
end
theorem kz_frz {H : Hp} {d : Addr} {od : Obj} {u : HO} (hd : H d = some u) (hu : dct u = true) : Kz H (upd H d (.frz od u)) where
  l := fun a xs h => by rw [upd_ne (fun e => by rw [e, hd] at h; cases h; cases hu)]; exact h
  t := fun a xs h => by rw [upd_ne (fun e => by rw [e, hd] at h; cases h; cases hu)]; exact h
  i := fun a C dx fs h => by rw [upd_ne (fun e => by rw [e, hd] at h; cases h; cases hu)]; exact h
  dk := fun a vs h => by
    rcases h with h | ⟨o, h⟩
    · by_cases e : a = d
      · subst e
        rw [hd] at h
        cases h
        exact .inr ⟨od, upd_same⟩
      · exact .inl (by rw [upd_ne e]; exact h)
    · exact .inr ⟨o, by rw [upd_ne (fun e => by rw [e, hd] at h; cases h; cases hu)]; exact h⟩
  dt := fun a vs h => by
    rcases h with h | ⟨o, h⟩
    · by_cases e : a = d
      · subst e
        rw [hd] at h
        cases h
        exact .inr ⟨od, upd_same⟩
      · exact .inl (by rw [upd_ne e]; exact h)
    · exact .inr ⟨o, by rw [upd_ne (fun e => by rw [e, hd] at h; cases h; cases hu)]; exact h⟩
theorem kz_thaw {H : Hp} {d : Addr} {od : Obj} {u : HO} (hd : H d = some (.frz od u)) : Kz H (upd H d u) where
  l := fun a xs h => by rw [upd_ne (fun e => by rw [e, hd] at h; cases h)]; exact h
  t := fun a xs h => by rw [upd_ne (fun e => by rw [e, hd] at h; cases h)]; exact h
  i := fun a C dx fs h => by rw [upd_ne (fun e => by rw [e, hd] at h; cases h)]; exact h
  dk := fun a vs h => by
    rcases h with h | ⟨o, h⟩
    · exact .inl (by rw [upd_ne (fun e => by rw [e, hd] at h; cases h)]; exact h)
    · by_cases e : a = d
      · subst e
        rw [hd] at h
        cases h
        exact .inl upd_same
      · exact .inr ⟨o, by rw [upd_ne e]; exact h⟩
  dt := fun a vs h => by
    rcases h with h | ⟨o, h⟩
    · exact .inl (by rw [upd_ne (fun e => by rw [e, hd] at h; cases h)]; exact h)
    · by_cases e : a = d
      · subst e
        rw [hd] at h
        cases h
        exact .inl upd_same
      · exact .inr ⟨o, by rw [upd_ne e]; exact h⟩
section
variable {W : Wd} {F : Fm} {ρ : Env'} {ω : Store} {L : Lc} {σ : L2.St} {H : Hp} {d : Addr} {od : Obj} {u : HO}
theorem RepO.kz {H' : Hp} {S : Addr → Prop} {ob : Nat → Option Addr} (k : Kz H H') : ∀ {x : D} {a : Addr}, RepO W H S ob false x a → RepO W H' S ob false x a
  | .lst xs, a, ⟨vs, h, q⟩ => ⟨vs, k.l _ _ h, Reps.kz k xs vs q⟩
  | .dK xs, a, ⟨vs, h, q⟩ => ⟨vs, ⟨fun e => (nomatch e), k.dk _ _ h.2⟩, RepK.kz k xs vs q⟩
  | .dT xs, a, ⟨vs, h, q⟩ => ⟨vs, ⟨fun e => (nomatch e), k.dt _ _ h.2⟩, RepT.kz k xs vs q⟩
  | .non, _, h | .bl _, _, h | .int _, _, h | .str _, _, h | .tup _, _, h | .ctup _, _, h | .ins _ _, _, h | .obj _, _, h => h.elim
theorem SltR.kz {H' : Hp} {p : Pl} (k : Kz H H') : ∀ {x : Sl} {v : Option V}, SltR W H L p false x v → SltR W H' L p false x v
  | .no, _, _ => trivial
  | .val d, v, ⟨x, e, h⟩ => ⟨x, e, Rep.kz k d x h⟩
  | .own d, v, ⟨a, e, l, h⟩ => ⟨a, e, l, RepO.kz k h⟩
theorem FsR.kz {H' : Hp} {n : Nat} (k : Kz H H') : ∀ {fs : List (Str × Sl)} {vs : List (Str × V)}, FsR W H L n false fs vs → FsR W H' L n false fs vs
  | [], _, h => h
  | (f, x) :: r, _, ⟨v, t, e, h, q⟩ => ⟨v, t, e, SltR.kz k h, FsR.kz k q⟩
/-- the walked dict stands still; nothing known may change -/
theorem Rel.frz (R : Rel W F ρ ω L σ H) (hd : H d = some u) (hu : dct u = true) (hs : ∀ i, L (.sl i) ≠ some d) : Rel W ⟨ω.length, L, upd H d (.frz od u)⟩ ρ ω L σ (upd H d (.frz od u)) where
  inj := R.inj
  alive := fun p a e => by
    by_cases z : a = d
    · subst z
      refine ⟨_, upd_same, ?_⟩
      obtain ⟨v, h, c⟩ := R.alive p a e
      rw [hd] at h
      cases h
      exact c
    · obtain ⟨v, h, c⟩ := R.alive p a e
      exact ⟨v, by rw [upd_ne z]; exact h, c⟩
  aft := Aft.refl
  fgs := R.fgs
  len := R.len
  sl := fun i s e => by
    have k := kz_frz (od := od) hd hu
    have q := R.sl i s e
    cases s with
    | no => trivial
    | val x =>
      obtain ⟨v, e1, r⟩ := q
      exact ⟨v, e1, Rep.kz k x v r⟩
    | own x =>
      obtain ⟨a, e1, l, r⟩ := q
      have ne : a ≠ d := fun z => hs i (by rw [l, z])
      refine ⟨a, e1, l, ?_⟩
      cases x with
      | lst xs => obtain ⟨vs, h, q⟩ := r; exact ⟨vs, k.l _ _ h, Reps.kz k xs vs q⟩
      | dK xs => obtain ⟨vs, h, q⟩ := r; exact ⟨vs, .of (by rw [upd_ne ne]; exact h.1 rfl), RepK.kz k xs vs q⟩
      | dT xs => obtain ⟨vs, h, q⟩ := r; exact ⟨vs, .of (by rw [upd_ne ne]; exact h.1 rfl), RepT.kz k xs vs q⟩
      | _ => exact r.elim
  st := fun n o e => by
    have k := kz_frz (od := od) hd hu
    have hn : n < ω.length := (List.getElem?_eq_some_iff.mp e).1
    obtain ⟨p, C, dx, fs, e1, e2, e3, q⟩ := (R.st n o e).at_
    rw [show decide (ω.length ≤ n) = false from decide_eq_false (by omega)]
    exact ⟨p, C, dx, fs, e1, e2, k.i _ _ _ _ e3, FsR.kz k (FsR.exw (ex := decide (F.n0 ≤ n)) (ex' := false) (fun h => by cases h) q)⟩
  dom := R.dom
theorem walks_keys {kvs : List (Key × D)} {vs : List (Key × V)} (hk : vs.map (·.1) = kvs.map (·.1)) : WalksH W (Itk d od vs) (kvs.map fun kv => kD kv.1) (fun H => H d = some (.frz od (.dK vs))) where
  go := fun i H h hi => ⟨h, by
    have := congrArg List.length hk
    rw [List.length_map] at hi this
    rw [List.length_map] at this
    omega⟩
  yld := fun i H x H' h ⟨e1, k, v, e2, e3⟩ hi => by
    subst e1
    refine ⟨Same.refl _, kD k, ?_, fun S ob => ?_⟩
    · have h1 : (vs.map (·.1))[i]? = some k := by rw [List.getElem?_map, e2]; rfl
      rw [hk, List.getElem?_map] at h1
      rw [List.getElem?_map]
      cases z : kvs[i]? with
      | none => rw [z] at h1; cases h1
      | some q =>
        rw [z] at h1
        have : q.1 = k := Option.some.inj h1
        rw [← this]; rfl
    · rw [e3]
      cases k with
      | inl n => rfl
      | inr s => rfl
  stop := fun i H h hi => ⟨h, by
    have := congrArg List.length hk
    rw [List.length_map] at hi this
    rw [List.length_map] at this
    omega⟩
  same := fun H H' h s => s _ _ h
  hole := fun H z l ys h hz => by rw [upd_ne (fun e => by rw [← e, h] at hz; cases hz)]; exact h
theorem walks_keysT {kvs : List (List Key × D)} {vs : List (List Key × V)} (hk : vs.map (·.1) = kvs.map (·.1)) : WalksH W (Itkt d od vs) (kvs.map fun kv => .tup (kv.1.map kD)) (fun H => H d = some (.frz od (.dT vs))) where
  go := fun i H h hi => ⟨h, by
    have := congrArg List.length hk
    rw [List.length_map] at hi this
    rw [List.length_map] at this
    omega⟩
  yld := fun i H x H' h ⟨e1, k, v, q, e2, e3, e4⟩ hi => by
    subst e1
    refine ⟨Same.refl _, .tup (k.map kD), ?_, fun S ob => ⟨q, _, e3, e4, ?_⟩⟩
    · have h1 : (vs.map (·.1))[i]? = some k := by rw [List.getElem?_map, e2]; rfl
      rw [hk, List.getElem?_map] at h1
      rw [List.getElem?_map]
      cases z : kvs[i]? with
      | none => rw [z] at h1; cases h1
      | some q =>
        rw [z] at h1
        have : q.1 = k := Option.some.inj h1
        rw [← this]; rfl
    · have : ∀ l : List Key, Reps W H' S ob (l.map kD) (l.map kV) := by
        intro l
        induction l with
        | nil => rfl
        | cons a l ih => cases a <;> exact ⟨_, _, rfl, rfl, ih⟩
      exact this k
  stop := fun i H h hi => ⟨h, by
    have := congrArg List.length hk
    rw [List.length_map] at hi this
    rw [List.length_map] at this
    omega⟩
  same := fun H H' h s => s _ _ h
  hole := fun H z l ys h hz => by rw [upd_ne (fun e => by rw [← e, h] at hz; cases hz)]; exact h
/-- from the locked walk to the list -/
theorem leafF_thaw {Wx : WX} {B : List Nat} {Q : VK} {r : Res D} (hd : H d = some u) (hu : dct u = true) (hne : ∀ e, r ≠ .err e) (h : LeafF W Wx L B σ H Q r) : LeafF W Wx L B σ (upd H d (.frz od u)) (fun v H' => H' d = some (.frz od u) ∧ Q v (upd H' d u)) r := by
  cases r with
  | stuck => exact h
  | err e => exact absurd rfl (hne e)
  | ok x =>
    intro a H' s n q
    have hd' : H' d = some (.frz od u) := s _ _ upd_same
    refine ⟨hd', ?_⟩
    have ne : a ≠ d := fun z => by
      subst z
      rw [upd_same] at n; cases n
    have n' : H a = none := by rwa [upd_ne ne] at n
    have s' : Same H (upd H' d u) := fun b v e => by
      by_cases z : b = d
      · subst z
        rw [hd] at e
        rw [upd_same]; exact e
      · rw [upd_ne z]
        exact s b v (by rw [upd_ne z]; exact e)
    have k := kz_thaw hd'
    refine h a _ s' n' ?_
    cases x with
    | lst xs => obtain ⟨vs, h, q⟩ := q; exact ⟨vs, k.l _ _ h, Reps.kz k xs vs q⟩
    | dK xs => obtain ⟨vs, h, q⟩ := q; exact ⟨vs, .of (by rw [upd_ne ne]; exact h.1 rfl), RepK.kz k xs vs q⟩
    | dT xs => obtain ⟨vs, h, q⟩ := q; exact ⟨vs, .of (by rw [upd_ne ne]; exact h.1 rfl), RepT.kz k xs vs q⟩
    | _ => exact q.elim
end
section
variable {X : Cx} {Wx : WX} {pos spos p : Pos} {elt : Expr} {Be : List Nat} {i j : Nat} {x y f cl : Str} {scope : Scope} {tt : Env' → Store → Res Bool} {me : M} {ifs : List Expr} {tg : Expr}
/-- the walked dict, as a slot holds it -/
@[simp] def mCompK (i : Nat) (md : M) (tt : Env' → Store → Res Bool) (me : M) : M := fun ρ ω => if i < ρ.length then (match md ρ ω with
  | .ok (.dK kvs) => if kvs.length ≤ 1000 then (compL i tt me ω (demote [] ρ) (kvs.map fun kv => kD kv.1)).bind fun ys => .ok (.lst ys) else .stuck
  | _ => .stuck) else .stuck
@[simp] def mVal (i : Nat) : M := fun ρ _ => match ρ[i]? with
  | some (.val d) => .ok d
  | _ => .stuck
theorem PE.or {e : Expr} {t t' : TE} (h : PE X e t) (h' : PE X e t') : PE X e (fun σ H Q => t σ H Q ∨ t' σ H Q) := ⟨fun pins s σ H Q I q => q.elim (h.run pins s σ H Q I) (h'.run pins s σ H Q I)⟩
theorem bind_ne {r : Res (List D)} {e : Er} (h : r ≠ .err e) : (r.bind fun ys => Res.ok (D.lst ys)) ≠ .err e := fun z => by
  cases r with
  | stuck => cases z
  | ok x => cases z
  | err e' => cases z; exact h rfl
theorem f_lcK (hc : X.calm = true) (hN : X.N.Nodup) (ok : BlkOk X.N X.env.scope scope [(x, i)])
    (hg : ∀ (s : Shared) (H : Hp) (C : Addr) (cl : List (Str × Addr)) (fp : List Addr), PG (X.blk s H scope (compEnvC scope cl C X.env) fp) tg (gName i))
    (ht : ∀ (s : Shared) (H : Hp) (C : Addr) (cl : List (Str × Addr)) (fp : List Addr), DTs (X.blk s H scope (compEnvC scope cl C X.env) fp) W0 ifs tt)
    (he : ∀ (s : Shared) (H : Hp) (C : Addr) (cl : List (Str × Addr)) (fp : List Addr), DP (X.blk s H scope (compEnvC scope cl C X.env) fp) W0 Be elt me)
    (hj : X.N[j]? = some y := by rfl) (hv : Vis X.env.scope y := by first | exact Or.inl rfl | exact Or.inr (Or.inl rfl) | exact Or.inr (Or.inr rfl)) (hd : (y == ("__debug__" : Str)) = false := by decide) (hcd : (y == ("__classdict__" : Str)) = false := by decide)
    (hs : ∀ x, foldedSetIterable (.Name y p) X.env x = pure x := by intro _; rfl) :
    DF X Wx (i :: ([] ++ Be)) (.ListComp elt [⟨tg, .Name y p, ifs, 0⟩] scope pos) (mCompK i (mVal j) tt me) :=
  ⟨PE.weak (PE.or (pe_lock (pe_lc hc hN (pi_keys (pe_var (i := j) hj hv hd hcd)) ok hg (fun s H C cl fp => (ht s H C cl fp).pts) (fun s H C cl fp => (he s H C cl fp).pe) hs)) (pe_lc hc hN (pi_keys (pe_var (i := j) hj hv hd hcd)) ok hg (fun s H C cl fp => (ht s H C cl fp).pts) (fun s H C cl fp => (he s H C cl fp).pe) hs)) fun σ H Q ⟨F, ρ, ω, L, R, h⟩ => by
    unfold mCompK at h
    split at h
    case isFalse => exact h.elim
    rename_i hl
    unfold mVal at h
    cases ej : ρ[j]? with
    | none => rw [ej] at h; exact h.elim
    | some s =>
      cases s with
      | no => rw [ej] at h; exact h.elim
      | own d => rw [ej] at h; exact h.elim
      | val dv =>
        rw [ej] at h
        cases dv with
        | dK kvs =>
          replace h : LeafF (wd X) Wx L (i :: ([] ++ Be)) σ H Q (if kvs.length ≤ 1000 then (compL i tt me ω (demote [] ρ) (kvs.map fun kv => kD kv.1)).bind fun ys => .ok (.lst ys) else .stuck) := h
          split at h
          case isFalse => exact h.elim
          rename_i hlen
          obtain ⟨v, e1, a, vs, e2, fr, hr, rk⟩ := R.sl j _ ej
          subst e2
          have no : ∀ q, L q ≠ some a := fun q z => by
            obtain ⟨m, hm, _⟩ := fr q z
            cases hm
          rcases hr with hr | ⟨o, hr⟩
          · refine .inl ⟨a, .dK vs, hr, by first | trivial | rfl | exact True.intro, fun od => ?_⟩
            refine ⟨.ref a, slot_at e1, a, od, rfl, .inl ⟨vs, upd_same, fun z hz => ?_⟩⟩
            have R2 := R.frz (od := od) hr rfl (fun i => no _)
            exact lc_readH (Bi := []) R2 hl (by rw [List.length_map]; exact hlen) (walks_keys (repK_keys rk)) upd_same (leafF_thaw hr rfl (fun e => bind_ne compL_ne) h) z hz
          · exact .inr ⟨.ref a, slot_at e1, a, o, rfl, .inl ⟨vs, hr, fun z hz => lc_readH (Bi := []) R hl (by rw [List.length_map]; exact hlen) (walks_keys (repK_keys rk)) hr h z hz⟩⟩
        | _ => exact h.elim⟩
end
end DL
namespace DL
open PySem PySem.Spec PySem.Calls PyProof.Rows L2

/-! ### facts of classes, for the head -/
structure FldK (K : PySem.W.Frag) (mg : Str → Option Value) (c f : Str) : Prop where
  ok : ∀ C, mg c = some (.ref C) → Cls K C ∧ NoAttr K C f
theorem FldK.x {X : Cx} {c f : Str} (h : FldK X.K X.mg c f) : FldOk X c f := ⟨h.ok⟩
theorem fldK_of {K : PySem.W.Frag} {mg : Str → Option Value} {c f : Str} (hm : mg c = some (.ref (He.ga K c))) (h1 : Cls K (He.ga K c)) (h2 : NoAttr K (He.ga K c) f) : FldK K mg c f := ⟨fun C e => by
  rw [hm] at e
  cases e
  exact ⟨h1, h2⟩⟩
section
variable {P : Program} {w : World} {K : PySem.W.Frag} {mg : Str → Option Value} {base : Heap} {x c m qual : Str} {params : Arguments} {body : List Stmt} {scope : Scope} {f C : Addr} {fd : FuncData} {N ps : List Str} {k n : Nat} {g : T}
theorem mc_ok (F : FunD K x qual params body scope [] [] f fd) (S : FnScope N ps scope) (hm : mg c = some (.ref C)) (hc : Cls K C) (hmt : Meth K C m f) (hb : Binds K fd ps []) (hn : ps.length = n)
    (hbody : ∀ (cdv : Value) (A : Around) (outer : List Env) (s : Shared) (H : Hp) (E : XK), Room k (A.deeper (envOfC qual scope s.heap.objs.size f cdv)) → DSs (cxOf (L2.CX P w) P w K mg base N qual scope f cdv A outer s H E) (fun cls d _ H => E cls d H) body g) :
    Mc P w K mg base (k + 1) c m n (fuOf N.length g) := by
  subst hn
  exact ⟨C, f, fd, ps, hm, hc, hmt, hb, rfl, fn_ok F S hbody⟩
theorem kc_ok (F : FunD K x qual params body scope [] [] f fd) (S : FnScope N ps scope) (hm : mg c = some (.ref C)) (hmk : Mk K C f) (hb : Binds K fd ps []) (hn : ps.length = n)
    (hbody : ∀ (cdv : Value) (A : Around) (outer : List Env) (s : Shared) (H : Hp) (E : XK), Room k (A.deeper (envOfC qual scope s.heap.objs.size f cdv)) → DSs (cxOf (L2.CX P w) P w K mg base N qual scope f cdv A outer s H E) (fun cls d _ H => E cls d H) body g) :
    Kc P w K mg base (k + 1) c n (fuOf N.length g) := by
  subst hn
  exact ⟨C, f, fd, ps, hm, hmk, hb, rfl, fn_ok F S hbody⟩
end
/-! ### name = [.. for .. in a dict ..] -/
section
variable {X : Cx} {Wx : WX} {pos spos p py : Pos} {elt : Expr} {Be : List Nat} {i j i0 : Nat} {x y z f cl : Str} {scope : Scope} {tt : Env' → Store → Res Bool} {me : M} {ifs : List Expr} {tg : Expr}
theorem s_setLcK (hc : X.calm = true) (hN : X.N.Nodup) (hz : X.N[i0]? = some z) (hzl : X.env.scope.names.lookup z = some .local)
    (hsw : swapsWith (.ListComp elt [⟨tg, .Name y p, ifs, 0⟩] scope pos) (some (.Name z py)) spos.line X.env = pure true) (ok : BlkOk X.N X.env.scope scope [(x, i)])
    (hg : ∀ (s : Shared) (H : Hp) (C : Addr) (cl : List (Str × Addr)) (fp : List Addr), PG (X.blk s H scope (compEnvC scope cl C X.env) fp) tg (gName i))
    (ht : ∀ (s : Shared) (H : Hp) (C : Addr) (cl : List (Str × Addr)) (fp : List Addr), DTs (X.blk s H scope (compEnvC scope cl C X.env) fp) W0 ifs tt)
    (he : ∀ (s : Shared) (H : Hp) (C : Addr) (cl : List (Str × Addr)) (fp : List Addr), DP (X.blk s H scope (compEnvC scope cl C X.env) fp) W0 Be elt me)
    (hj : X.N[j]? = some y := by rfl) (hv : Vis X.env.scope y := by first | exact Or.inl rfl | exact Or.inr (Or.inl rfl) | exact Or.inr (Or.inr rfl)) (hd : (y == ("__debug__" : Str)) = false := by decide) (hcd : (y == ("__classdict__" : Str)) = false := by decide)
    (hs : ∀ x, foldedSetIterable (.Name y p) X.env x = pure x := by intro _; rfl) :
    DS X Wx (.Assign [.Name z py] (.ListComp elt [⟨tg, .Name y p, ifs, 0⟩] scope pos) spos) (sSetO i0 (i :: ([] ++ Be)) (mCompK i (mVal j) tt me)) :=
  ⟨⟨fun pins s σ H G I ⟨F, ρ, ω, L, R, h⟩ => by
    have core := ps_setLc (own := [(x, i)]) (tt := tT (wd X) W0 tt) (te := tP (wd X) W0 Be me) (g := gName i) hc hN hz hzl hsw (pi_keys (pe_var (i := j) hj hv hd hcd)) ok hg (fun s H C cl fp => (ht s H C cl fp).pts) (fun s H C cl fp => (he s H C cl fp).pe) hs
    unfold sSetO ofE mCompK at h
    split at h
    · exact h.elim
    · rename_i e he
      split at he
      · split at he
        · split at he
          · exact absurd he (bind_ne compL_ne)
          · cases he
        · cases he
      · cases he
    · rename_i d hd0
      split at hd0
      case isFalse => cases hd0
      rename_i hl
      unfold mVal at hd0
      cases ej : ρ[j]? with
      | none => rw [ej] at hd0; cases hd0
      | some sl =>
        cases sl with
        | no => rw [ej] at hd0; cases hd0
        | own d' => rw [ej] at hd0; cases hd0
        | val dv =>
          rw [ej] at hd0
          cases dv with
          | dK kvs =>
            replace hd0 : (if kvs.length ≤ 1000 then (compL i tt me ω (demote [] ρ) (kvs.map fun kv => kD kv.1)).bind fun ys => .ok (.lst ys) else .stuck) = Res.ok d := hd0
            split at hd0
            case isFalse => cases hd0
            rename_i hlen
            split at h
            case isFalse => exact h.elim
            rename_i hl0
            have fin : LeafF (wd X) Wx L (i :: ([] ++ Be)) σ H (fun x H1 => gName i0 x σ H1 G.nx) ((compL i tt me ω (demote [] ρ) (kvs.map fun kv => kD kv.1)).bind fun ys => .ok (.lst ys)) := by
              rw [hd0]
              intro a H' s' n r
              obtain ⟨L', R2⟩ := R.storeO s' (B := i :: ([] ++ Be)) hl0 n r
              exact h _ H' L' R2
            obtain ⟨v, e1, a, vs, e2, fr, hr, rk⟩ := R.sl j _ ej
            subst e2
            have no : ∀ q, L q ≠ some a := fun q z => by
              obtain ⟨m, hm, _⟩ := fr q z
              cases hm
            rcases hr with hr | ⟨o, hr⟩
            · refine (ps_lock core).run pins s σ H G I ⟨a, .dK vs, hr, by first | trivial | rfl | exact True.intro, fun od => ?_⟩
              refine ⟨.ref a, slot_at e1, a, od, rfl, .inl ⟨vs, upd_same, fun z hz => ?_⟩⟩
              have R2 := R.frz (od := od) hr rfl (fun i => no _)
              exact lc_readH (Bi := []) R2 hl (by rw [List.length_map]; exact hlen) (walks_keys (repK_keys rk)) upd_same (leafF_thaw hr rfl (fun e => bind_ne compL_ne) fin) z hz
            · refine core.run pins s σ H G I ⟨.ref a, slot_at e1, a, o, rfl, .inl ⟨vs, hr, fun z hz => lc_readH (Bi := []) R hl (by rw [List.length_map]; exact hlen) (walks_keys (repK_keys rk)) hr fin z hz⟩⟩
          | _ => cases hd0⟩⟩
end
end DL
noncomputable section
namespace DL
open PySem PySem.Spec PySem.Calls PyProof.Rows L2
/-! ### lists new since a call, changed and forgotten -/
section
variable {X : Cx} {pos p p2 apos cpos : Pos} {i : Nat} {x : Str} {n : Int} {jj : Nat}
theorem jb_app (i : Nat) (hN : X.N[i]? = some x := by rfl) (hv : Vis X.env.scope x := by first | exact Or.inl rfl | exact Or.inr (Or.inl rfl) | exact Or.inr (Or.inr rfl)) (hd : (x == ("__debug__" : Str)) = false := by decide)
    (hcd : (x == ("__classdict__" : Str)) = false := by decide)
    (hbase : attributeBase (.Name x p) "append" X.env (eval (.Name x p) X.env) = eval (.Name x p) X.env := by rfl)
    (hfew : ((backTo cpos (starEach (.Constant (.int n) jj p2 :: []) X.env)).all (fun x => !x.1) && (backToKw cpos (keywordEach [] X.env)).all (fun x => x.1.isSome)
      && decide ((Expr.Constant (.int n) jj p2 :: ([] : List Expr)).length + ([] : List Keyword).length + (if ([] : List Keyword).isEmpty then 0 else 1) < 30)) = true := by rfl)
    (hline : (apos.endLine == cpos.line) = true := by rfl) (hs : starEach (.Constant (.int n) jj p2 :: []) X.env = (false, eval (.Constant (.int n) jj p2) X.env) :: starEach [] X.env := by rfl) (hplain : (backTo cpos (starEach [] X.env)).any (·.1) = false := by rfl)
    (hsw : swapsWith (.Call (.Attribute (.Name x p) "append" apos) [.Constant (.int n) jj p2] [] cpos) none pos.line X.env = pure false := by rfl) :
    PS X (.Expr (.Call (.Attribute (.Name x p) "append" apos) [.Constant (.int n) jj p2] [] cpos) pos) (fun G σ H => ∃ a ys, σ[i]? = some (some (.ref a)) ∧ H a = some (.lst ys) ∧ ys.length < 1000000 ∧ G.nx σ (upd H a (.lst (ys ++ [.int n])))) :=
  PS.weak (ps_expr (pe_bm PySem.F.plainAttrs_list PySem.F.slot_list_append PySem.F.type_list_append mt_append (pe_var (i := i) hN hv hd hcd) (pa_cons pe_int pa_nil hs) hbase hfew hline hs hplain) hsw) fun G σ H ⟨a, ys, e, h, hl, g⟩ =>
    ⟨.ref a, e, .inl ⟨rfl, ys, SqL.of h⟩, a, ys, .int n, rfl, rfl, h, by rw [sizeLine_eq]; omega, g⟩
theorem jb_rev (i : Nat) (hN : X.N[i]? = some x := by rfl) (hv : Vis X.env.scope x := by first | exact Or.inl rfl | exact Or.inr (Or.inl rfl) | exact Or.inr (Or.inr rfl)) (hd : (x == ("__debug__" : Str)) = false := by decide)
    (hcd : (x == ("__classdict__" : Str)) = false := by decide)
    (hbase : attributeBase (.Name x p) "reverse" X.env (eval (.Name x p) X.env) = eval (.Name x p) X.env := by rfl) (hline : (apos.endLine == cpos.line) = true := by rfl)
    (hsw : swapsWith (.Call (.Attribute (.Name x p) "reverse" apos) [] [] cpos) none pos.line X.env = pure false := by rfl) :
    PS X (.Expr (.Call (.Attribute (.Name x p) "reverse" apos) [] [] cpos) pos) (fun G σ H => ∃ a ys, σ[i]? = some (some (.ref a)) ∧ H a = some (.lst ys) ∧ G.nx σ (upd H a (.lst ys.reverse))) :=
  PS.weak (ps_expr (pe_bm0 PySem.F.plainAttrs_list PySem.F.slot_list_reverse PySem.F.type_list_reverse mt_reverse (pe_var (i := i) hN hv hd hcd) hbase hline) hsw) fun G σ H ⟨a, ys, e, h, g⟩ =>
    ⟨.ref a, e, .inl ⟨rfl, ys, SqL.of h⟩, a, ys, rfl, rfl, h, g⟩
/-- what such a suite does: one list changes, by no more than one -/
structure JB (X : Cx) (i : Nat) (sts : List Stmt) : Prop where
  pss : PSs X sts (fun G σ H => ∃ a ys, σ[i]? = some (some (.ref a)) ∧ H a = some (.lst ys) ∧ ys.length < 1000000 ∧ ∀ ys', ys'.length ≤ ys.length + 1 → G.nx σ (upd H a (.lst ys')))
theorem PSs.weak' {sts : List Stmt} {t t' : TS} (h : PSs X sts t) (w : ∀ G σ H, t' G σ H → t G σ H) : PSs X sts t' := ⟨fun pins s σ H D I q => h.run pins s σ H D I (w D σ H q)⟩
theorem jb_one {st : Stmt} (h : PS X st (fun G σ H => ∃ a ys, σ[i]? = some (some (.ref a)) ∧ H a = some (.lst ys) ∧ ys.length < 1000000 ∧ G.nx σ (upd H a (.lst (ys ++ [.int n]))))) : JB X i [st] :=
  ⟨PSs.weak' (pss_one h) fun G σ H ⟨a, ys, e, h, hl, g⟩ => ⟨a, ys, e, h, hl, g _ (by rw [List.length_append]; exact Nat.le_refl _)⟩⟩
theorem jb_two {st st2 : Stmt} (h : PS X st (fun G σ H => ∃ a ys, σ[i]? = some (some (.ref a)) ∧ H a = some (.lst ys) ∧ ys.length < 1000000 ∧ G.nx σ (upd H a (.lst (ys ++ [.int n]))))) (h2 : PS X st2 (fun G σ H => ∃ a ys, σ[i]? = some (some (.ref a)) ∧ H a = some (.lst ys) ∧ G.nx σ (upd H a (.lst ys.reverse)))) : JB X i [st, st2] :=
  ⟨PSs.weak' (pss_cons h (pss_one h2)) fun G σ H ⟨a, ys, e, h, hl, g⟩ => ⟨a, ys, e, h, hl, a, ys ++ [.int n], e, upd_same, by
    have := g (ys ++ [V.int n]).reverse (by rw [List.length_reverse, List.length_append]; exact Nat.le_refl _)
    rw [upd_upd]
    exact this⟩⟩
end
/-- a list new since H0, no longer than n -/
def Nw (H0 H : Hp) (n : Nat) (v : V) : Prop := ∃ a ys, v = .ref a ∧ H0 a = none ∧ H a = some (.lst ys) ∧ ys.length ≤ n
def lens (ds : List D) : Option (List Nat) := ds.mapM fun d => match d with
  | .lst xs => some xs.length
  | _ => none
def NwL (H0 H : Hp) : List D → List V → Prop
  | [], vs => vs = []
  | d :: ds, vs => ∃ v r, vs = v :: r ∧ (match d with
    | .lst xs => Nw H0 H xs.length v
    | _ => True) ∧ NwL H0 H ds r
def Zf (H0 H : Hp) : D → V → Prop
  | .lst xs, v => Nw H0 H xs.length v
  | .tup ds, v => ∃ t vs, v = .ref t ∧ H t = some (.tup vs) ∧ NwL H0 H ds vs
  | _, _ => True
def small (d : D) : Bool := match d with
  | .lst xs => decide (xs.length ≤ 1000)
  | _ => false
theorem Nw.up {H0 H : Hp} {n k : Nat} {v : V} (h : Nw H0 H n v) (hk : n ≤ k) : Nw H0 H k v := by
  obtain ⟨a, ys, e1, e2, e3, e4⟩ := h
  exact ⟨a, ys, e1, e2, e3, Nat.le_trans e4 hk⟩
theorem NwL.all {H0 H : Hp} : ∀ {ds : List D} {vs : List V}, NwL H0 H ds vs → ds.all small = true → vs.length = ds.length ∧ ∀ v ∈ vs, Nw H0 H 1000 v
  | [], vs, h, _ => by rw [show vs = [] from h]; exact ⟨rfl, fun v hv => by cases hv⟩
  | d :: ds, vs, h, hs => by
    obtain ⟨v, r, e, h1, h2⟩ := h
    subst e
    rw [List.all_cons, Bool.and_eq_true] at hs
    obtain ⟨l, m⟩ := NwL.all h2 hs.2
    refine ⟨by rw [List.length_cons, List.length_cons, l], fun x hx => ?_⟩
    rcases List.mem_cons.mp hx with q | hx
    · rw [q]
      cases d with
      | lst xs => exact Nw.up h1 (of_decide_eq_true hs.1)
      | _ => cases hs.1
    · exact m x hx
section
variable {W : Wd} {F : Fm} {ρ : Env'} {ω : Store} {L : Lc} {σ : L2.St} {H : Hp} {i : Nat}
theorem Rel.junk (R : Rel W F ρ ω L σ H) (hi : i < ρ.length) (v : V) : Rel W F (ρ.set i .no) ω (lcS L i none) (σ.set i (some v)) H :=
  R.put (Same.refl H) hi (kp_none (Same.refl H)) (fun a e => by cases e) trivial
/-- the walk over such lists -/
theorem told_walk {tb : TS} {D : Ends} {J : It} {t : Addr} {u : HO} {vs : List V} (hb : ∀ (G : Ends) (σ : L2.St) (H : Hp), (∃ a ys, σ[i]? = some (some (.ref a)) ∧ H a = some (.lst ys) ∧ ys.length < 1000000 ∧ ∀ ys', ys'.length ≤ ys.length + 1 → G.nx σ (upd H a (.lst ys'))) → tb G σ H)
    (go : ∀ H' j, H' t = some u → j < vs.length → J.go j H') (yld : ∀ H' j x H'', H' t = some u → J.yld j H' x H'' → j < vs.length → H'' = H' ∧ vs[j]? = some x) (stop : ∀ H', H' t = some u → J.stop vs.length H')
    (hi : i < σ.length) (hne : 0 < vs.length) (hle : vs.length ≤ 1000) {H1 : Hp} (s : Same H H1) (ht : H1 t = some u) (hv : ∀ v ∈ vs, Nw H H1 1000 v ∧ v ≠ .ref t) (hend : ∀ H2 v, Same H H2 → D.nx (σ.set i (some v)) H2) :
    ∃ W : Nat → Nat → L2.St → Hp → Prop, (∃ m, W 0 m σ H1) ∧ ∀ i' m σ H, W i' m σ H →
      (J.stop i' H ∧ D.nx σ H) ∨ (J.go i' H ∧ ∃ N : L2.St → Hp → Prop, (∀ σ' H', N σ' H' → ∃ m', m' < m ∧ W (i' + 1) m' σ' H') ∧ ∀ x H', J.yld i' H x H' → gName i x σ H' fun σ2 H2 => tb { D with nx := N, ct := N, bk := D.nx } σ2 H2) := by
  refine ⟨fun j k σ' H' => k = vs.length - j ∧ j ≤ vs.length ∧ ((j = 0 ∧ σ' = σ) ∨ (0 < j ∧ ∃ v, σ' = σ.set i (some v))) ∧ Same H H' ∧ H' t = some u ∧ ∀ v ∈ vs, Nw H H' (1000 + j) v ∧ v ≠ .ref t,
    ⟨vs.length, by simp, Nat.zero_le _, .inl ⟨rfl, rfl⟩, s, ht, hv⟩, ?_⟩
  rintro j k σ' H' ⟨rfl, hj, hσ, s', ht', hv'⟩
  by_cases hlt : j < vs.length
  · refine .inr ⟨go H' j ht' hlt, fun σ2 H2 => (∃ v, σ2 = σ.set i (some v)) ∧ Same H H2 ∧ H2 t = some u ∧ ∀ v ∈ vs, Nw H H2 (1000 + (j + 1)) v ∧ v ≠ .ref t, fun σ2 H2 ⟨h1, h2, h3, h4⟩ => ⟨vs.length - (j + 1), by omega, rfl, hlt, .inr ⟨Nat.succ_pos _, h1⟩, h2, h3, h4⟩, fun x H'' y => ?_⟩
    obtain ⟨e1, e2⟩ := yld H' j x H'' ht' y hlt
    have e1 := e1.symm
    subst e1
    obtain ⟨⟨a, ys, q1, q2, q3, q4⟩, q5⟩ := hv' x (List.mem_iff_getElem?.mpr ⟨j, e2⟩)
    subst q1
    have hat : t ≠ a := fun z => q5 (by rw [z])
    have hset : σ'.set i (some (.ref a)) = σ.set i (some (.ref a)) := by
      rcases hσ with ⟨_, h⟩ | ⟨_, v, h⟩
      · rw [h]
      · rw [h, List.set_set]
    show tb _ (σ'.set i (some (.ref a))) H'
    rw [hset]
    refine hb _ _ _ ⟨a, ys, by rw [List.getElem?_set_self hi], q3, by omega, fun ys' hl => ⟨⟨_, rfl⟩, fun b w hw => ?_, by rw [upd_ne hat]; exact ht', fun v hvv => ?_⟩⟩
    · rw [upd_ne (fun z => by rw [z, q2] at hw; cases hw)]
      exact s' b w hw
    · obtain ⟨⟨b, zs, r1, r2, r3, r4⟩, r5⟩ := hv' v hvv
      refine ⟨?_, r5⟩
      by_cases z : b = a
      · subst z
        exact ⟨b, ys', r1, r2, upd_same, by omega⟩
      · exact ⟨b, zs, r1, r2, by rw [upd_ne z]; exact r3, by omega⟩
  · have e : j = vs.length := by omega
    subst e
    rcases hσ with ⟨h, _⟩ | ⟨_, v, h⟩
    · omega
    · subst h
      exact .inl ⟨stop H' ht', hend H' v s'⟩
end
/-! expressions whose value is new -/
def LeafZ (W : Wd) (Wx : WX) (σ : L2.St) (H : Hp) (Q : VK) : Res D → Prop
  | .stuck => False
  | .ok d => ∀ v H', Same H H' → Zf H H' d v → Q v H'
  | .err e => ∀ cls dd H', Same H H' → Exc W H' e cls dd → Wx cls dd σ H'
def tZ (W : Wd) (Wx : WX) (m : M) : TE := fun σ H Q => ∃ F ρ ω L, Rel W F ρ ω L σ H ∧ LeafZ W Wx σ H Q (m ρ ω)
structure DZ (X : Cx) (Wx : WX) (e : Expr) (m : M) : Prop where
  pe : PE X e (tZ (wd X) Wx m)
section
variable {X : Cx} {Wx : WX} {pos p : Pos} {e a b : Expr} {m ma mb : M} {B Ba Bb : List Nat} {i : Nat} {x : Str} {sts : List Stmt}
theorem Reps.len' {W : Wd} {H : Hp} {S : Addr → Prop} {ob : Nat → Option Addr} {ds : List D} {vs : List V} (h : Reps W H S ob ds vs) : vs.length = ds.length := h.len
theorem z_df (h : DF X Wx B e m) : DZ X Wx e m :=
  ⟨PE.weak h.pe fun σ H Q ⟨F, ρ, ω, L, R, h⟩ => ⟨F, ρ, ω, L, R, by
    cases z : m ρ ω with
    | stuck => rw [z] at h; exact h
    | err x => rw [z] at h; exact h
    | ok d =>
      rw [z] at h
      intro a H' s hn r
      refine h (.ref a) H' s ?_
      cases d with
      | lst xs =>
        obtain ⟨vs, h1, q⟩ := r
        exact ⟨a, vs, rfl, hn, h1, by rw [q.len]; exact Nat.le_refl _⟩
      | tup ds => exact r.elim
      | _ => trivial⟩⟩
/-- for x in (new lists): they change -/
def sTold (i : Nat) (m : M) : T := fun _ ρ ω => match m ρ ω with
  | .ok (.tup ds) => if i < ρ.length ∧ 0 < ds.length ∧ ds.length ≤ 1000 ∧ ds.all small = true then .nx (ρ.set i .no) ω else .stuck
  | _ => .stuck
theorem s_told (hp : PassesOwn (model X.prog X.w) X.A X.env X.xe) (hc : X.calm = true) (hN : X.N.Nodup) (hi : X.N[i]? = some x) (hx : Loc X.env.scope x) (he : DZ X Wx e m) (hb : JB X i sts)
    (hs : ∀ x, foldedSetIterable e X.env x = pure x := by intro _; rfl) (hf : X.fn x = true ∨ X.env.scope.names.lookup x = some .local := by first | exact .inl rfl | exact .inr rfl | assumption) : DS X Wx (.For (.Name x p) e sts [] pos) (sTold i m) :=
  ⟨PS.weak (ps_for hp hc (pi_tup he.pe) (pg_name hN hi hx hf) hb.pss hs) fun G σ H ⟨F, ρ, ω, L, R, h⟩ => by
    refine ⟨F, ρ, ω, L, R, ?_⟩
    unfold sTold at h
    cases z : m ρ ω with
    | stuck => rw [z] at h; exact h
    | err e => rw [z] at h; exact h.elim
    | ok d =>
      rw [z] at h
      cases d with
      | tup ds =>
        replace h : LeafS (wd X) Wx F G (if i < ρ.length ∧ 0 < ds.length ∧ ds.length ≤ 1000 ∧ ds.all small = true then .nx (ρ.set i .no) ω else .stuck) := h
        split at h
        case isFalse => exact h.elim
        rename_i hh
        obtain ⟨h1, h2, h3, h4⟩ := hh
        intro v H1 s q
        obtain ⟨t, vs, e1, e2, e3⟩ := q
        obtain ⟨l1, l2⟩ := e3.all h4
        refine ⟨t, e1, ⟨vs, SqT.of e2⟩, ?_⟩
        have uq : ∀ {H' : Hp}, H' t = some (.tup vs) → SqT X.K H' t vs := fun h => SqT.of h
        refine told_walk (J := Itt X.K t) (t := t) (u := .tup vs) (vs := vs) (fun G σ H h => h) (fun H' j ht hj => ⟨vs, vs[j], uq ht, List.getElem?_eq_getElem hj⟩) (fun H' j x H'' ht y hj => ⟨y.1, y.2 vs (uq ht)⟩) (fun H' ht => ⟨vs, uq ht, Nat.le_refl _⟩) (by rw [R.len]; exact h1) (by omega) (by omega) s e2
          (fun v hv => ⟨l2 v hv, fun q => by
            obtain ⟨a, ys, q1, _, q3, _⟩ := l2 v hv
            rw [q] at q1
            cases q1
            rw [e2] at q3; cases q3⟩) (fun H2 v s2 => h _ _ _ ((R.same s2).junk h1 v))
      | _ => exact h.elim⟩
end
/-! suites that return what is new -/
def LeafSZ (W : Wd) (Wx : WX) (F : Fm) (G : Ends) : RS → Prop
  | .rt d ω => ∀ v ρ σ H L, Rel W F ρ ω L σ H → Zf F.H0 H d v → G.rt v H
  | .er e ω => ∀ cls dd ρ σ H L, Rel W F ρ ω L σ H → Exc W H e cls dd → Wx cls dd σ H
  | .nx ρ ω => ∀ σ H L, Rel W F ρ ω L σ H → G.nx σ H
  | _ => False
def tSZ (W : Wd) (Wx : WX) (m : T) : TS := fun G σ H => ∃ F ρ ω L, Rel W F ρ ω L σ H ∧ LeafSZ W Wx F G (m F.n0 ρ ω)
structure DSsZ (X : Cx) (Wx : WX) (st : List Stmt) (m : T) : Prop where
  pss : PSs X st (tSZ (wd X) Wx m)
theorem Nw.back {H0 H H' : Hp} {n : Nat} {v : V} (f : ∀ a, H a = none → H0 a = none) (h : Nw H H' n v) : Nw H0 H' n v := by
  obtain ⟨a, ys, e1, e2, e3, e4⟩ := h
  exact ⟨a, ys, e1, f a e2, e3, e4⟩
theorem NwL.back {H0 H H' : Hp} (f : ∀ a, H a = none → H0 a = none) : ∀ {ds : List D} {vs : List V}, NwL H H' ds vs → NwL H0 H' ds vs
  | [], _, h => h
  | d :: ds, _, ⟨v, r, e, h1, h2⟩ => ⟨v, r, e, by
    cases d with
    | lst xs => exact Nw.back f h1
    | _ => trivial, NwL.back f h2⟩
theorem Zf.back {H0 H H' : Hp} (f : ∀ a, H a = none → H0 a = none) {d : D} {v : V} (h : Zf H H' d v) : Zf H0 H' d v := by
  cases d with
  | lst xs => exact Nw.back f h
  | tup ds =>
    obtain ⟨t, vs, e1, e2, e3⟩ := h
    exact ⟨t, vs, e1, e2, NwL.back f e3⟩
  | _ => trivial
theorem Nw.keep {H0 H H' : Hp} {n : Nat} {v : V} (s : Same H H') (h : Nw H0 H n v) : Nw H0 H' n v := by
  obtain ⟨a, ys, e1, e2, e3, e4⟩ := h
  exact ⟨a, ys, e1, e2, s a _ e3, e4⟩
section
variable {X : Cx} {Wx : WX} {pos p : Pos} {e a b : Expr} {m ma mb : M} {B Ba Bb : List Nat} {i : Nat} {x : Str} {st : Stmt} {sts : List Stmt} {t u : T}
theorem zs_ret (he : DZ X Wx e m) : DSsZ X Wx [.Return (some e) pos] (sRet m) :=
  ⟨PSs.weak' (pss_one (ps_ret he.pe)) fun G σ H ⟨F, ρ, ω, L, R, h⟩ => ⟨F, ρ, ω, L, R, by
    unfold sRet at h
    cases z : m ρ ω with
    | stuck => rw [z] at h; exact h
    | err e => rw [z] at h; exact fun cls dd H' s x => h cls dd ρ σ H' L (R.same s) x
    | ok d => rw [z] at h; exact fun v H' s q => h v ρ σ H' L (R.same s) (q.back fun a => R.aft.fresh)⟩⟩
@[simp] def sqZ (m1 m2 : T) : T := fun n0 ρ ω => match m1 n0 ρ ω with
  | .nx ρ' ω' => m2 n0 ρ' ω'
  | .er e ω' => .er e ω'
  | _ => .stuck
theorem zs_cons (ha : DS X Wx st t) (hb : DSsZ X Wx sts u) : DSsZ X Wx (st :: sts) (sqZ t u) :=
  ⟨PSs.weak' (pss_cons ha.ps hb.pss) fun G σ H ⟨F, ρ, ω, L, R, h⟩ => ⟨F, ρ, ω, L, R, by
    unfold sqZ at h
    cases z : t F.n0 ρ ω with
    | stuck => rw [z] at h; exact h
    | nx ρ' ω' => rw [z] at h; exact fun σ' H' L' R' => ⟨F, ρ', ω', L', R', h⟩
    | er e ω' => rw [z] at h; exact h
    | rt d ω' => rw [z] at h; exact h.elim
    | bk ρ' ω' => rw [z] at h; exact h.elim
    | ct ρ' ω' => rw [z] at h; exact h.elim⟩⟩
/-- two new lists in a tuple -/
@[simp] def mTwo (ma mb : M) : M := fun ρ ω => match ma ρ ω, mb ρ ω with
  | .ok (.lst xs), .ok (.lst ys) => .ok (.tup [.lst xs, .lst ys])
  | _, _ => .stuck
theorem z_two {k : Nat} (ha : DZ X Wx a ma) (hb : DZ X Wx b mb) (hs : starEach [a, b] X.env = (false, eval a X.env) :: starEach [b] X.env := by rfl) (hs2 : starEach [b] X.env = (false, eval b X.env) :: starEach [] X.env := by rfl) : DZ X Wx (.Tuple [a, b] k pos) (mTwo ma mb) :=
  ⟨PE.weak (pe_tup (pa_cons ha.pe (pa_cons hb.pe pa_nil hs2) hs)) fun σ H Q ⟨F, ρ, ω, L, R, h⟩ => by
    unfold mTwo at h
    refine ⟨F, ρ, ω, L, R, ?_⟩
    cases za : ma ρ ω with
    | stuck => rw [za] at h; exact h.elim
    | err e => rw [za] at h; exact h.elim
    | ok d1 =>
      rw [za] at h
      intro v H1 s1 q1
      refine ⟨F, ρ, ω, L, R.same s1, ?_⟩
      cases zb : mb ρ ω with
      | stuck => rw [zb] at h; cases d1 <;> exact h.elim
      | err e => rw [zb] at h; cases d1 <;> exact h.elim
      | ok d2 =>
        rw [zb] at h
        intro w H2 s2 q2
        cases d1 with
        | lst xs =>
          cases d2 with
          | lst ys =>
            refine ⟨by show 2 ≤ sizeLine; decide, fun z hz => ?_⟩
            have sm := same_upd (o := .tup [v, w]) hz
            refine h (.ref z) _ ((s1.trans s2).trans sm) ⟨z, [v, w], rfl, upd_same, v, [w], rfl, Nw.keep sm (Nw.keep s2 q1), w, [], rfl, ?_, rfl⟩
            refine Nw.keep sm (Nw.back (fun a hn => ?_) q2)
            cases e : H a with
            | none => rfl
            | some u => rw [s1 a u e] at hn; cases hn
          | _ => exact h.elim
        | _ => exact h.elim⟩
end
/-! a def's promise of what is new -/
def LeafCZ (W : Wd) (F : Fm) (Q : VK) (E : XK) : RR → Prop
  | .stuck => False
  | .ok d ω => ∀ v H' L', Rel W F [] ω L' [] H' → NoSl L' → Zf F.H0 H' d v → Q v H'
  | .er e ω => ∀ cls dd H' L', Rel W F [] ω L' [] H' → NoSl L' → Exc W H' e cls dd → E cls dd H'
def spZ (W : Wd) (n : Nat) (f : Fu) : Sp := fun vs H Q E => vs.length = n ∧ ∃ n0 L ω ds, Rel W ⟨n0, L, H⟩ [] ω L [] H ∧ NoSl L ∧ Reps W H (Fr L []) (obs L) ds vs ∧ LeafCZ W ⟨n0, L, H⟩ Q E (f n0 ds ω)
section
variable {P : Program} {w : World} {K : PySem.W.Frag} {mg : Str → Option Value} {base : Heap} {x c m qual : Str} {params : Arguments} {body : List Stmt} {scope : Scope} {f C : Addr} {fd : FuncData} {N ps : List Str} {k n : Nat} {g : T}
theorem fnz_ok (F : FunD K x qual params body scope [] [] f fd) (S : FnScope N ps scope)
    (hbody : ∀ (cdv : Value) (A : Around) (outer : List Env) (s : Shared) (H : Hp) (E : XK), Room k (A.deeper (envOfC qual scope s.heap.objs.size f cdv)) →
      DSsZ (cxOf (L2.CX P w) P w K mg base N qual scope f cdv A outer s H E) (fun cls d _ H => E cls d H) body g) : FnOk P w K mg base (L2.CX P w) (k + 1) f fd ps (spZ ⟨K, mg⟩ ps.length (fuOf N.length g)) := by
  refine F.ok S (fun vs H Q E h => h.1) (fun cdv A outer s H vs Q E hr h => ⟨_, (hbody cdv A outer s H E hr).pss, ?_⟩)
  obtain ⟨hl, n0, L, ω, ds, R, ns, q, h⟩ := h
  refine ⟨⟨n0, L, H⟩, envS N.length ds, ω, L, R.begin q, ?_⟩
  replace h : LeafCZ ⟨K, mg⟩ ⟨n0, L, H⟩ Q E (toRR (g n0 (envS N.length ds) ω)) := h
  show LeafSZ ⟨K, mg⟩ _ _ _ (g n0 (envS N.length ds) ω)
  cases z : g n0 (envS N.length ds) ω with
  | stuck => rw [z] at h; exact h
  | bk ρ ω => rw [z] at h; exact h.elim
  | ct ρ ω => rw [z] at h; exact h.elim
  | nx ρ' ω' => rw [z] at h; exact fun σ' H' L' R' => h .non H' _ R'.strip lcN_no trivial
  | rt d ω' => rw [z] at h; exact fun v ρ' σ' H' L' R' r => h _ H' _ R'.strip lcN_no r
  | er e ω' => rw [z] at h; exact fun cls dd ρ' σ' H' L' R' r => h _ _ H' _ R'.strip lcN_no r
end
structure FcZ (P : Program) (w : World) (K : PySem.W.Frag) (mg : Str → Option Value) (base : Heap) (k : Nat) (x : Str) (n : Nat) (g : Fu) : Prop where
  ex : ∃ f fd ps, mg x = some (.ref f) ∧ PySem.W.keepIn K (.ref f) = true ∧ Binds K fd ps [] ∧ ps.length = n ∧ FnOk P w K mg base (L2.CX P w) k f fd ps (spZ ⟨K, mg⟩ n g)
structure McZ (P : Program) (w : World) (K : PySem.W.Frag) (mg : Str → Option Value) (base : Heap) (k : Nat) (c m : Str) (n : Nat) (g : Fu) : Prop where
  ex : ∃ C f fd ps, mg c = some (.ref C) ∧ Cls K C ∧ Meth K C m f ∧ Binds K fd ps [] ∧ ps.length = n ∧ FnOk P w K mg base (L2.CX P w) k f fd ps (spZ ⟨K, mg⟩ n g)
section
variable {P : Program} {w : World} {K : PySem.W.Frag} {mg : Str → Option Value} {base : Heap} {x c m qual : Str} {params : Arguments} {body : List Stmt} {scope : Scope} {f C : Addr} {fd : FuncData} {N ps : List Str} {k n : Nat} {g : T}
theorem fcz_ok (F : FunD K x qual params body scope [] [] f fd) (S : FnScope N ps scope) (hm : mg x = some (.ref f)) (hb : Binds K fd ps []) (hn : ps.length = n)
    (hbody : ∀ (cdv : Value) (A : Around) (outer : List Env) (s : Shared) (H : Hp) (E : XK), Room k (A.deeper (envOfC qual scope s.heap.objs.size f cdv)) → DSsZ (cxOf (L2.CX P w) P w K mg base N qual scope f cdv A outer s H E) (fun cls d _ H => E cls d H) body g) :
    FcZ P w K mg base (k + 1) x n (fuOf N.length g) := by
  subst hn
  exact ⟨f, fd, ps, hm, F.kp, hb, rfl, fnz_ok F S hbody⟩
theorem mcz_ok (F : FunD K x qual params body scope [] [] f fd) (S : FnScope N ps scope) (hm : mg c = some (.ref C)) (hc : Cls K C) (hmt : Meth K C m f) (hb : Binds K fd ps []) (hn : ps.length = n)
    (hbody : ∀ (cdv : Value) (A : Around) (outer : List Env) (s : Shared) (H : Hp) (E : XK), Room k (A.deeper (envOfC qual scope s.heap.objs.size f cdv)) → DSsZ (cxOf (L2.CX P w) P w K mg base N qual scope f cdv A outer s H E) (fun cls d _ H => E cls d H) body g) :
    McZ P w K mg base (k + 1) c m n (fuOf N.length g) := by
  subst hn
  exact ⟨C, f, fd, ps, hm, hc, hmt, hb, rfl, fnz_ok F S hbody⟩
end
theorem LeafZ.later {W : Wd} {Wx : WX} {σ : L2.St} {H H1 : Hp} {Q : VK} {r : Res D} (s : Same H H1) (h : LeafZ W Wx σ H Q r) : LeafZ W Wx σ H1 Q r := by
  cases r with
  | stuck => exact h
  | ok d => exact fun v H' s' q => h v H' (s.trans s') (q.back fun a hn => by
      cases e : H a with
      | none => rfl
      | some u => rw [s a u e] at hn; cases hn)
  | err e => exact fun cls dd H' s' x => h cls dd H' (s.trans s') x
theorem meth_readZ {W : Wd} {Wx : WX} {F : Fm} {ρ : Env'} {ω : Store} {L : Lc} {σ : L2.St} {H : Hp} {Q : VK} {B : List Nat} {ds : List D} {vs : List V} {n : Nat} {g : Fu} (R : Rel W F ρ ω L σ H) (q : Reps W H (Fr L B) (obs L) ds vs) (h : LeafZ W Wx σ H Q (if ds.length = n then ofRR ω (g ω.length ds ω) else .stuck)) : spZ W n g vs H Q (fun c d H => Wx c d σ H) := by
  split at h
  case isFalse => exact h.elim
  rename_i hds
  refine ⟨by rw [q.len, hds], ω.length, lcC L B, ω, ds, R.into B ω.length (fun n h1 h2 => absurd h1 (Nat.not_lt.mpr h2)), lcC_no, Reps.mono kp_call ds vs q, ?_⟩
  cases zg : g ω.length ds ω with
  | stuck => rw [zg] at h; exact h
  | er e ω' =>
    rw [zg] at h
    exact fun cls dd H2 L' R' ns x => h cls dd H2 (call_keep R R' (Nat.le_refl _)) x
  | ok d ω' =>
    rw [zg] at h
    replace h : LeafZ W Wx σ H Q (if ω'.length = ω.length then .ok d else .stuck) := h
    split at h
    · rename_i hl
      exact fun v H2 L' R' ns r => h v H2 (call_keep R R' (Nat.le_refl _)) r
    · exact h.elim
section
variable {X : Cx} {Wx : WX} {pos p p' apos : Pos} {o e : Expr} {es : List Expr} {m mo : M} {mr : MA} {B Bo : List Nat} {i j k n : Nat} {x cl mt : Str} {g : Fu}
theorem z_meth (cc : McZ X.prog X.w X.K X.mg X.base j cl mt n g) (hr : Room k X.A) (tk : Takes X Wx) (ho : DU X Wx Bo o mo) (ha : DA X Wx B (e :: es) mr) (hj : j ≤ k := by decide) {pl : Sem Bool}
    (hst : starEach (e :: es) X.env = (false, eval e X.env) :: starEach es X.env := by rfl) (hpl : (backTo pos (starEach es X.env)).any (·.1) = false := by rfl)
    (ht : eval (.Call (.Attribute o mt apos) (e :: es) [] pos) X.env = (do
      let ov ← eval o X.env
      standAt apos.atName
      let (f, first) ← holding [ov] (getMethod ov mt pl)
      callWith pos f first (backTo pos (starEach (e :: es) X.env)) (backToKw pos (keywordEach [] X.env))) := by rfl) : DZ X Wx (.Call (.Attribute o mt apos) (e :: es) [] pos) (mMeth cl mt n g mo mr) := by
  obtain ⟨C, fa, fd, ps, h1, h2, h3, h4, rfl, h6⟩ := cc.ex
  refine ⟨PE.weak (pe_methSD (pl := pl) ho.pe h2 h3 (h6.mono hj) hr h4 .nil (passAt tk) ha.pa hst hpl ht) fun σ H Q ⟨F, ρ, ω, L, R, h⟩ => ?_⟩
  refine ⟨F, ρ, ω, L, R, ?_⟩
  unfold mMeth at h
  cases z : mo ρ ω with
  | stuck => rw [z] at h; exact h
  | err e => rw [z] at h; exact h
  | ok d =>
    rw [z] at h
    intro v H1 s q
    replace h : LeafZ (wd X) Wx σ H Q (if recv cl mt ω d = true then (mr ρ ω).bind fun ds => if ds.length + 1 = ps.length then ofRR ω (g ω.length (d :: ds) ω) else .stuck else .stuck) := h
    have R1 := R.same s
    split at h
    case isFalse => exact h.elim
    rename_i hrv
    obtain ⟨nn, a, dx, fs, e1, e2, e3, e4, e5⟩ := recv_ok R1 hrv h1 q
    subst e1 e3
    refine ⟨a, dx, fs, rfl, e4, e5, F, ρ, ω, L, R1, ?_⟩
    cases zr : mr ρ ω with
    | stuck => rw [zr] at h; exact h
    | err e => rw [zr] at h; exact fun c d H' s' x => h c d H' (s.trans s') x
    | ok ds =>
      rw [zr] at h
      intro vs H2 s2 q2
      rw [List.append_nil]
      exact meth_readZ (ds := .obj nn :: ds) (R1.same s2) ⟨_, _, rfl, ⟨a, e2, rfl⟩, q2⟩ (h.later (s.trans s2))
theorem z_meth0 (cc : McZ X.prog X.w X.K X.mg X.base j cl mt n g) (hr : Room k X.A) (tk : Takes X Wx) (ho : DU X Wx Bo o mo) (hj : j ≤ k := by decide) {pl : Sem Bool}
    (ht : eval (.Call (.Attribute o mt apos) [] [] pos) X.env = (do
      let ov ← eval o X.env
      standAt apos.atName
      let (f, first) ← holding [ov] (getMethod ov mt pl)
      callWith pos f first (backTo pos (starEach [] X.env)) (backToKw pos (keywordEach [] X.env))) := by rfl) : DZ X Wx (.Call (.Attribute o mt apos) [] [] pos) (mMeth cl mt n g mo aNil) := by
  obtain ⟨C, fa, fd, ps, h1, h2, h3, h4, rfl, h6⟩ := cc.ex
  refine ⟨PE.weak (pe_methSD0 (pl := pl) ho.pe h2 h3 (h6.mono hj) hr h4 .nil (passAt tk) ht) fun σ H Q ⟨F, ρ, ω, L, R, h⟩ => ?_⟩
  refine ⟨F, ρ, ω, L, R, ?_⟩
  unfold mMeth at h
  cases z : mo ρ ω with
  | stuck => rw [z] at h; exact h
  | err e => rw [z] at h; exact h
  | ok d =>
    rw [z] at h
    intro v H1 s q
    replace h : LeafZ (wd X) Wx σ H Q (if recv cl mt ω d = true then (if ([] : List D).length + 1 = ps.length then ofRR ω (g ω.length (d :: []) ω) else .stuck) else .stuck) := h
    have R1 := R.same s
    split at h
    case isFalse => exact h.elim
    rename_i hrv
    obtain ⟨nn, a, dx, fs, e1, e2, e3, e4, e5⟩ := recv_ok R1 hrv h1 q
    subst e1 e3
    refine ⟨a, dx, fs, rfl, e4, e5, ?_⟩
    exact meth_readZ (B := []) (ds := [.obj nn]) R1 ⟨_, _, rfl, ⟨a, e2, rfl⟩, rfl⟩ (h.later s)
theorem z_callF (c : FcZ X.prog X.w X.K X.mg X.base j x n g) (hr : Room k X.A) (tk : Takes X Wx) (ha : DA X Wx B (e :: es) mr) (hg : Gl X x := by rfl) (hj : j ≤ k := by decide) (hdb : (x == ("__debug__" : Str)) = false := by decide)
    (he : starEach (e :: es) X.env = (false, eval e X.env) :: starEach es X.env := by rfl) (hpl : (backTo pos (starEach es X.env)).any (·.1) = false := by rfl) : DZ X Wx (.Call (.Name x p) (e :: es) [] pos) (mCall n g mr) := by
  obtain ⟨f, fd, ps, h1, h2, h3, rfl, h5⟩ := c.ex
  refine ⟨PE.weak (pe_callSD (h5.mono hj) hr hg h1 h2 h3 .nil (passAt tk) ha.pa hdb he hpl) fun σ H Q ⟨F0, ρ, ω, L, R, h⟩ => ?_⟩
  refine ⟨F0, ρ, ω, L, R, ?_⟩
  unfold mCall at h
  cases z : mr ρ ω with
  | stuck => rw [z] at h; exact h
  | err e => rw [z] at h; exact h
  | ok ds =>
    rw [z] at h
    intro vs H1 s q
    rw [List.append_nil]
    exact meth_readZ (R.same s) q (LeafZ.later s h)
end
section
variable {X : Cx} {Wx : WX} {pos p np rp pos' : Pos} {e : Expr} {i : Nat} {x : Str}
/-- a suite that returns what is new, and raises nothing -/
@[simp] def sTryZ (mb : T) : T := fun n0 ρ ω => match mb n0 ρ ω with
  | .rt d ω' => .rt d ω'
  | _ => .stuck
theorem zs_try {c : Value} {n : Str} {body : List Stmt} {mb : T} {g : Er → Option D} (cs : List Str) (hit : Str → Bool) (hN : X.N.Nodup) (hi : X.N[i]? = some n) (hln : X.env.kindOf n = some .local) (hc : Names X x c) (tk : Takes X Wx) (T : ∀ k ∈ cs, ∀ C, X.mg k = some (.ref C) → PySem.W.exmOne X.K (.ref C) c = some (hit k))
    (hb : ∀ (W : WX) (pn : List (Addr × Obj)) (xe : Value → Shared → Prop), Takes (X.tr pn xe) W → PassesOwn (model X.prog X.w) X.A X.env xe → DSsZ (X.tr pn xe) W body mb) (he : DE X i e g) (hs : X.stack = X.env :: X.outer := by rfl) (hf : X.env.frame = some X.env.locals := by rfl) :
    DSsZ X Wx [.Try body [.ExceptHandler (some (.Name x np)) (some n) [.Return (some e) rp] pos'] [] [] pos] (sTryZ mb) := by
  obtain ⟨te, h1, h2⟩ := he.ex
  refine ⟨PSs.weak' (pss_one (ps_try_as (tb := fun W => tSZ (wd X) W mb) (ts := fun a cls d D σ H => σ.length = X.N.length → tRet (te a cls d) D σ H) hs hf hN hi hln hc tk (fun W pn xe tk' hp => (hb W pn xe tk' hp).pss) fun a oe cls d pn hz hff => ⟨fun pins s σ H D I q => (pss_one (ps_ret (h1 a oe cls d pn hz hff))).run pins s σ H D I (q I.len)⟩)) fun G σ H ⟨F, ρ, ω, L, R, h⟩ => ⟨F, ρ, ω, L, R, ?_⟩⟩
  unfold sTryZ at h
  cases zb : mb F.n0 ρ ω with
  | stuck => rw [zb] at h; exact h
  | nx ρ' ω' => rw [zb] at h; exact h.elim
  | rt d ω' => rw [zb] at h; exact h
  | bk ρ' ω' => rw [zb] at h; exact h.elim
  | ct ρ' ω' => rw [zb] at h; exact h.elim
  | er er ω' => rw [zb] at h; exact h.elim
end
end DL
noncomputable section
namespace DL
open PySem PySem.Spec PySem.Calls PyProof.Rows L2
/-! ### sorted of pairs whose first parts rise -/
def fstI : D → Option Int
  | .tup [.int i, .int _] => some i
  | _ => none
def overI (i : Int) (e : D) : Bool := match fstI e with
  | some j => decide (i < j)
  | none => false
def rises : List D → Bool
  | [] => true
  | d :: r => (match fstI d with
    | some i => r.all (overI i)
    | none => false) && rises r
def gSortP : D → Res D
  | .lst xs => if rises xs = true then .ok (.lst xs) else .stuck
  | _ => .stuck
def keyP (H : Hp) (v : V) : Int × Int := match v with
  | .ref t => (match H t with
    | some (.tup [.int i, .int j]) => (i, j)
    | _ => (0, 0))
  | _ => (0, 0)
section
variable {W : Wd} {H : Hp} {S : Addr → Prop} {ob : Nat → Option Addr}
theorem fst_rep {d : D} {v : V} {i : Int} (e : fstI d = some i) (h : Rep W H S ob d v) : ∃ t, v = .ref t ∧ H t = some (.tup [.int (keyP H v).1, .int (keyP H v).2]) ∧ (keyP H v).1 = i := by
  unfold fstI at e
  split at e
  · cases e
    obtain ⟨t, vs, e1, e2, v1, r1, e3, e4, v2, r2, e5, e6, e7⟩ := h
    have e4 : v1 = .int i := e4
    have e6 : v2 = .int _ := e6
    subst e1 e4 e6
    have e7 : r2 = [] := e7
    subst e7 e5 e3
    refine ⟨t, rfl, ?_⟩
    have ek : ∀ j : Int, H t = some (.tup [.int i, .int j]) → keyP H (.ref t) = (i, j) := fun j h => by
      unfold keyP
      dsimp only
      rw [h]
    rw [ek _ e2]
    exact ⟨e2, rfl⟩
  · cases e
theorem all_over {i : Int} : ∀ {ds : List D} {vs : List V}, Reps W H S ob ds vs → ds.all (overI i) = true → ∀ v ∈ vs, i < (keyP H v).1
  | [], vs, h, _ => by rw [show vs = [] from h]; exact fun v hv => by cases hv
  | d :: ds, _, ⟨v, r, e, h1, h2⟩, hs => by
    subst e
    rw [List.all_cons, Bool.and_eq_true] at hs
    intro x hx
    rcases List.mem_cons.mp hx with q | hx
    · subst q
      have h := hs.1
      unfold overI at h
      cases z : fstI d with
      | none => rw [z] at h; cases h
      | some j =>
        rw [z] at h
        obtain ⟨_, _, _, e⟩ := fst_rep z h1
        rw [e]
        exact of_decide_eq_true h
    · exact all_over h2 hs.2 x hx
theorem rises_vs : ∀ {ds : List D} {vs : List V}, Reps W H S ob ds vs → rises ds = true → (∀ v ∈ vs, ∃ t, v = .ref t ∧ H t = some (.tup [.int (keyP H v).1, .int (keyP H v).2])) ∧ SrtO.Srtd (ltP (keyP H)) vs
  | [], vs, h, _ => by
    rw [show vs = [] from h]
    exact ⟨fun v hv => (nomatch hv), List.Pairwise.nil⟩
  | d :: ds, _, ⟨v, r, e, h1, h2⟩, hs => by
    subst e
    unfold rises at hs
    rw [Bool.and_eq_true] at hs
    obtain ⟨a1, a2⟩ := rises_vs h2 hs.2
    have h := hs.1
    cases z : fstI d with
    | none => rw [z] at h; cases h
    | some i =>
      rw [z] at h
      obtain ⟨t, b1, b2, b3⟩ := fst_rep z h1
      have c := all_over h2 h
      refine ⟨fun x hx => ?_, List.pairwise_cons.mpr ⟨fun y hy => ?_, a2⟩⟩
      · rcases List.mem_cons.mp hx with q | hx
        · subst q; exact ⟨t, b1, b2⟩
        · exact a1 x hx
      · have := c y hy
        show SrtO.lexB (keyP H y) (keyP H v) = false
        cases q : SrtO.lexB (keyP H y) (keyP H v) with
        | false => rfl
        | true => rw [SrtO.lexB_iff] at q; omega
end
theorem lf_sortedP {W : Wd} : LfCF W gSortP (rSortedPO W.K) := by
  intro Wx L B σ H Q x v q l
  unfold gSortP at l
  split at l
  · split at l
    · rename_i hr
      obtain ⟨a, vs, e1, h, r⟩ := q
      obtain ⟨a1, a2⟩ := rises_vs r hr
      refine ⟨a, vs, keyP H, by rw [e1], .of h, a1, fun ys z hs hb hz => ?_⟩
      rw [SrtO.stb_uniq (ltP_swo _) hs a2 hb]
      exact l.ret (same_upd hz) hz ⟨vs, upd_same, Reps.mono (kp_new hz) _ _ r⟩
    · exact l.elim
  · exact l.elim
section
variable {X : Cx} {Wx : WX} {pos p : Pos} {a b c d e : Expr} {ma mb mc md m : M} {Ba Bb Bc Bd B : List Nat} {i : Nat} {x : Str} {sts : List Stmt}
theorem f_sortedP (hg : Gl X "sorted") (hm : X.mg "sorted" = none) (ha : DU X Wx Ba a ma) (he : starEach [a] X.env = (false, eval a X.env) :: starEach [] X.env := by rfl) : DF X Wx Ba (.Call (.Name "sorted" p) [a] [] pos) (m1 ma gSortP) := f_callB1 cr_sortedPO lf_sortedP hg hm (by decide +kernel) ha (he := he)
/-! a chain of three -/
def tChain3 (r r' r'' : R2) (ta tb tc td : TE) : TE := fun σ H Q => ta σ H fun x H1 => tb σ H1 fun y H2 => r x y H2 fun z H3 => ∃ k, z = .bl k ∧
  (if k = true then tc σ H3 fun w H4 => r' y w H4 fun z' H5 => ∃ k', z' = .bl k' ∧ (if k' = true then td σ H5 fun u H6 => r'' w u H6 Q else Q (.bl false) H5) else Q (.bl false) H3)
theorem pt_chain3 {ta tb tc td : TE} {op op' op'' : CmpOp} {r r' r'' : R2} (ho : OpR X (compareOp op) r) (ho' : OpR X (compareOp op') r') (ho'' : OpR X (compareOp op'') r'') (ha : PE X a ta) (hb : PE X b tb) (hc : PE X c tc) (hd : PE X d td)
    (hm : lastMarks [op, op', op''] [b, c, d] = false := by with_unfolding_all rfl) : PT X (.Compare a [op, op', op''] [b, c, d] pos) (tTest (tChain3 r r' r'' ta tb tc td)) := by
  refine ⟨fun pins s σ H Q I h => ?_⟩
  refine isTrue_chain (thn (ha.run pins s σ H _ I h) fun v s1 ⟨x, H1, I1, r1, q1⟩ => test_link (thn (hb.run pins s1 σ H1 _ I1 q1) fun u s2 ⟨y, H2, I2, r2, q2⟩ =>
    thn (ho pins s2 σ H2 x y v u _ I2 r1 r2 q2) fun d s3 ⟨z, H3, I3, r3, k, e, q3⟩ => ?_)) hm
  subst e
  cases r3
  refine wpAny_truthy_bool ?_
  cases k with
  | false =>
    obtain ⟨k', e', q'⟩ := q3
    cases e'
    exact ite_ff ⟨H3, I3, q'⟩
  | true =>
    refine ite_tt (test_link (thn (hc.run pins s3 σ H3 _ I3 q3) fun w' s4 ⟨z', H4, I4, r4, q4⟩ => thn (ho' pins s4 σ H4 y z' u w' _ I4 r2 r4 q4) fun d' s5 ⟨z2, H5, I5, r5, k2, e2, q5⟩ => ?_))
    subst e2
    cases r5
    refine wpAny_truthy_bool ?_
    cases k2 with
    | false =>
      obtain ⟨k', e', q'⟩ := q5
      cases e'
      exact ite_ff ⟨H5, I5, q'⟩
    | true =>
      refine ite_tt (test_last (thn (hd.run pins s5 σ H5 _ I5 q5) fun w6 s6 ⟨z6, H6, I6, r6, q6⟩ => thn (ho'' pins s6 σ H6 z' z6 w' w6 _ I6 r4 r6 q6) fun d7 s7 ⟨z7, H7, I7, r7, k7, e7, q7⟩ => ?_))
      subst e7
      cases r7
      exact wpAny_truthy_bool ⟨H7, I7, q7⟩
@[simp] def mCh3 (ma mb mc md : M) (g g' g'' : D → D → Res D) : M := fun ρ ω => (ma ρ ω).bind fun x => (mb ρ ω).bind fun y => (g x y).bind fun z => match z with
  | .bl true => (mc ρ ω).bind fun w => (g' y w).bind fun z' => (match z' with
    | .bl true => (md ρ ω).bind fun u => g'' w u
    | .bl false => .ok (.bl false)
    | _ => .stuck)
  | .bl false => .ok (.bl false)
  | _ => .stuck
theorem chain3_read {σ : L2.St} {H : Hp} {Q : VK} {W : Wd} {g g' g'' : D → D → Res D} {r r' r'' : R2} (hl : LfOp W g r) (hl' : LfOp W g' r') (hl'' : LfOp W g'' r'') {F : Fm} {ρ : Env'} {ω : Store} {L : Lc} (R : Rel W F ρ ω L σ H) (h : Leaf W Wx L (Ba ++ (Bb ++ (Bc ++ Bd))) σ H Q (mCh3 ma mb mc md g g' g'' ρ ω)) :
    tChain3 r r' r'' (tU W Wx Ba ma) (tU W Wx Bb mb) (tU W Wx Bc mc) (tU W Wx Bd md) σ H Q := by
  unfold tChain3
  unfold mCh3 at h
  refine part1 (B := Ba ++ (Bb ++ (Bc ++ Bd))) subl R h fun v H1 x s1 R1 p l1 => ?_
  refine part1 (B := Ba ++ (Bb ++ (Bc ++ Bd))) (fun i hi => subr i (subl i hi)) R1 l1 fun w H2 y s2 R2 q l2 => ?_
  refine hl Wx L (Ba ++ (Bb ++ (Bc ++ Bd))) σ H2 _ x y v w R2.al (p.same s2) q ?_
  cases z : g x y with
  | stuck => rw [z] at l2; exact l2
  | err e => rw [z] at l2; exact l2
  | ok d =>
    rw [z] at l2
    intro u H3 s3 r3
    cases d with
    | bl k =>
      refine ⟨k, r3, ?_⟩
      cases k with
      | true =>
        rw [if_pos rfl]
        refine part1 (B := Ba ++ (Bb ++ (Bc ++ Bd))) (fun i hi => subr i (subr i (subl i hi))) (R2.same s3) (l2.to s3 subid fun _ _ q => q) fun w' H4 y' s4 R4 q4 l4 => ?_
        refine hl' Wx L (Ba ++ (Bb ++ (Bc ++ Bd))) σ H4 _ y y' w w' R4.al ((q.same s3).same s4) q4 ?_
        cases z' : g' y y' with
        | stuck => rw [z'] at l4; exact l4
        | err e => rw [z'] at l4; exact l4
        | ok d' =>
          rw [z'] at l4
          intro u' H5 s5 r5
          cases d' with
          | bl k' =>
            refine ⟨k', r5, ?_⟩
            cases k' with
            | true =>
              rw [if_pos rfl]
              refine part1 (B := Ba ++ (Bb ++ (Bc ++ Bd))) (fun i hi => subr i (subr i (subr i hi))) (R4.same s5) (l4.to s5 subid fun _ _ q => q) fun w6 H6 y6 s6 R6 q6 l6 => ?_
              exact hl'' Wx L _ σ H6 Q y' y6 w' w6 R6.al ((q4.same s5).same s6) q6 l6
            | false =>
              rw [if_neg (by decide)]
              exact l4 _ H5 s5 rfl
          | _ => exact l4.elim
      | false =>
        rw [if_neg (by decide)]
        exact l2 _ H3 s3 rfl
    | _ => exact l2.elim
theorem t_chain3 {op op' op'' : CmpOp} {g g' g'' : D → D → Res D} {r r' r'' : R2} (ho : OpR X (compareOp op) r) (hl : LfOp (wd X) g r) (ho' : OpR X (compareOp op') r') (hl' : LfOp (wd X) g' r') (ho'' : OpR X (compareOp op'') r'') (hl'' : LfOp (wd X) g'' r'') (ha : DU X Wx Ba a ma) (hb : DU X Wx Bb b mb) (hc : DU X Wx Bc c mc) (hd : DU X Wx Bd d md) (hm : lastMarks [op, op', op''] [b, c, d] = false := by rfl) :
    DB X Wx (.Compare a [op, op', op''] [b, c, d] pos) (bV (mCh3 ma mb mc md g g' g'')) :=
  ⟨PT.weak (pt_chain3 ho ho' ho'' ha.pe hb.pe hc.pe hd.pe (hm := hm)) fun σ H Q ⟨F, ρ, ω, L, R, h⟩ => chain3_read (Q := fun x H' => ∃ k, x = .bl k ∧ Q k H') hl hl' hl'' R (leaf_b h)⟩
/-! three new lists in a new list -/
def LeafY (W : Wd) (Wx : WX) (σ : L2.St) (H : Hp) (Q : VK) : Res D → Prop
  | .ok (.tup ds) => ∀ t vs H', Same H H' → H' t = some (.lst vs) → NwL H H' ds vs → (∀ v ∈ vs, v ≠ .ref t) → Q (.ref t) H'
  | _ => False
structure DY (X : Cx) (Wx : WX) (e : Expr) (m : M) : Prop where
  pe : PE X e (fun σ H Q => ∃ F ρ ω L, Rel (wd X) F ρ ω L σ H ∧ LeafY (wd X) Wx σ H Q (m ρ ω))
@[simp] def mThr (ma mb mc : M) : M := fun ρ ω => match ma ρ ω, mb ρ ω, mc ρ ω with
  | .ok (.lst xs), .ok (.lst ys), .ok (.lst zs) => .ok (.tup [.lst xs, .lst ys, .lst zs])
  | _, _, _ => .stuck
theorem none_back {H H1 : Hp} (s : Same H H1) (a : Addr) (hn : H1 a = none) : H a = none := by
  cases e : H a with
  | none => rfl
  | some u => rw [s a u e] at hn; cases hn
theorem y_thr (ha : DZ X Wx a ma) (hb : DZ X Wx b mb) (hc : DZ X Wx c mc) (hs : starEach [a, b, c] X.env = (false, eval a X.env) :: starEach [b, c] X.env := by rfl) (hs2 : starEach [b, c] X.env = (false, eval b X.env) :: starEach [c] X.env := by rfl)
    (hs3 : starEach [c] X.env = (false, eval c X.env) :: starEach [] X.env := by rfl) : DY X Wx (.List [a, b, c] pos) (mThr ma mb mc) :=
  ⟨PE.weak (pe_lst (pa_cons ha.pe (pa_cons hb.pe (pa_cons hc.pe pa_nil hs3) hs2) hs)) fun σ H Q ⟨F, ρ, ω, L, R, h⟩ => by
    unfold mThr at h
    refine ⟨F, ρ, ω, L, R, ?_⟩
    cases za : ma ρ ω with
    | stuck => rw [za] at h; exact h.elim
    | err e => rw [za] at h; exact h.elim
    | ok d1 =>
      rw [za] at h
      intro v H1 s1 q1
      refine ⟨F, ρ, ω, L, R.same s1, ?_⟩
      cases zb : mb ρ ω with
      | stuck => rw [zb] at h; cases d1 <;> exact h.elim
      | err e => rw [zb] at h; cases d1 <;> exact h.elim
      | ok d2 =>
        rw [zb] at h
        intro w H2 s2 q2
        refine ⟨F, ρ, ω, L, (R.same s1).same s2, ?_⟩
        cases d1 with
        | lst xs =>
          cases d2 with
          | lst ys =>
            cases zc : mc ρ ω with
            | stuck => rw [zc] at h; exact h.elim
            | err e => rw [zc] at h; exact h.elim
            | ok d3 =>
              rw [zc] at h
              intro u H3 s3 q3
              cases d3 with
              | lst zs =>
                refine ⟨by show 3 ≤ sizeLine; decide, fun z hz => ?_⟩
                have sm := same_upd (o := .lst [v, w, u]) hz
                have n1 : Nw H H3 xs.length v := Nw.keep s3 (Nw.keep s2 q1)
                have n2 : Nw H H3 ys.length w := Nw.keep s3 (Nw.back (none_back s1) q2)
                have n3 : Nw H H3 zs.length u := Nw.back (none_back (s1.trans s2)) q3
                have ne : ∀ {n : Nat} {y : V}, Nw H H3 n y → y ≠ .ref z := fun ⟨a, ys, e1, e2, e3, e4⟩ q => by
                  rw [q] at e1
                  cases e1
                  rw [hz] at e3
                  cases e3
                refine h z [v, w, u] _ (((s1.trans s2).trans s3).trans sm) upd_same ⟨v, [w, u], rfl, Nw.keep sm n1, w, [u], rfl, Nw.keep sm n2, u, [], rfl, Nw.keep sm n3, rfl⟩ fun y hy => ?_
                simp only [List.mem_cons, List.not_mem_nil, or_false] at hy
                rcases hy with q | q | q <;> subst q
                · exact ne n1
                · exact ne n2
                · exact ne n3
              | _ => exact h.elim
          | _ => exact h.elim
        | _ => cases d2 <;> exact h.elim⟩
theorem s_toldL (hp : PassesOwn (model X.prog X.w) X.A X.env X.xe) (hc : X.calm = true) (hN : X.N.Nodup) (hi : X.N[i]? = some x) (hx : Loc X.env.scope x) (he : DY X Wx e m) (hb : JB X i sts)
    (hs : ∀ x, foldedSetIterable e X.env x = pure x := by intro _; rfl) (hf : X.fn x = true ∨ X.env.scope.names.lookup x = some .local := by first | exact .inl rfl | exact .inr rfl | assumption) : DS X Wx (.For (.Name x p) e sts [] pos) (sTold i m) :=
  ⟨PS.weak (ps_for hp hc (pi_list he.pe) (pg_name hN hi hx hf) hb.pss hs) fun G σ H ⟨F, ρ, ω, L, R, h⟩ => by
    refine ⟨F, ρ, ω, L, R, ?_⟩
    unfold sTold at h
    cases z : m ρ ω with
    | stuck => rw [z] at h; exact h
    | err e => rw [z] at h; exact h.elim
    | ok d =>
      rw [z] at h
      cases d with
      | tup ds =>
        replace h : LeafS (wd X) Wx F G (if i < ρ.length ∧ 0 < ds.length ∧ ds.length ≤ 1000 ∧ ds.all small = true then .nx (ρ.set i .no) ω else .stuck) := h
        split at h
        case isFalse => exact h.elim
        rename_i hh
        obtain ⟨h1, h2, h3, h4⟩ := hh
        intro t vs H1 s e2 e3 e4
        obtain ⟨l1, l2⟩ := e3.all h4
        refine ⟨t, rfl, ⟨vs, SqL.of e2⟩, ?_⟩
        have uq : ∀ {H' : Hp}, H' t = some (.lst vs) → SqL X.K H' t vs := fun h => SqL.of h
        exact told_walk (J := Itl X.K t) (t := t) (u := .lst vs) (vs := vs) (fun G σ H h => h) (fun H' j ht hj => ⟨vs, vs[j], uq ht, List.getElem?_eq_getElem hj⟩) (fun H' j x H'' ht y hj => ⟨y.1, y.2 vs (uq ht)⟩) (fun H' ht => ⟨vs, uq ht, Nat.le_refl _⟩) (by rw [R.len]; exact h1) (by omega) (by omega) s e2
          (fun v hv => ⟨l2 v hv, e4 v hv⟩) (fun H2 v s2 => h _ _ _ ((R.same s2).junk h1 v))
      | _ => exact h.elim⟩
end
end DL
noncomputable section
namespace DL
open PySem PySem.Spec PySem.Calls PyProof.Rows L2
section
variable {X : Cx} {Wx : WX} {pos : Pos} {a b c : Expr} {xa xb : MX} {f : Str} {tc : Env' → Store → Res Bool}
/-! a field of what an expression with effects tells -/
@[simp] def xFld (c f : Str) (xa : MX) : MX := fun n0 ρ ω => (xa n0 ρ ω).bind fun d ρ1 ω1 => ofR (fldVal c f ω1 d) ρ1 ω1
theorem x_fld (cl : Str) (T : FldOk X cl f) (ha : DX X Wx a xa) (hb : attributeBase a f X.env (eval a X.env) = eval a X.env := by rfl) : DX X Wx (.Attribute a f pos) (xFld cl f xa) :=
  ⟨PE.weak (pe_fld ha.pe hb) fun σ H Q ⟨F, ρ, ω, L, R, h⟩ => part1x (k := fun d ρ1 ω1 => ofR (fldVal cl f ω1 d) ρ1 ω1) R h fun v H1 L1 ρ1 ω1 x R1 r l => by
    have h := leafX_ofR R1 l
    have s := Same.refl H1
    unfold fldVal at h
    split at h
    · rename_i n
      split at h
      · rename_i o eo
        split at h
        · rename_i ec
          obtain ⟨p, C, dx, fs, e1, e2, e3, q⟩ := (R1.st n o eo).at_
          obtain ⟨a1, e4, e5⟩ := r
          have e6 : p = a1 := Option.some.inj (e1.symm.trans e4)
          subst e6
          rw [ec] at e2
          obtain ⟨T1, T2⟩ := T.ok C e2
          split at h
          · rename_i d el
            obtain ⟨v1, l1, r1⟩ := q.get el
            obtain ⟨v2, e7, r2⟩ := r1
            cases e7
            exact ⟨p, C, dx, fs, v1, e5, e3, T1, T2, l1, h v1 H1 s (r2.wide nilsub)⟩
          · exact h.elim
        · exact h.elim
      · exact h.elim
    · rename_i k fs
      split at h
      · rename_i ec
        obtain ⟨a1, C, dx, fv, e5, s1, e2, e3, q⟩ := r
        rw [ec] at e2
        obtain ⟨T1, T2⟩ := T.ok C e2
        split at h
        · rename_i d el
          obtain ⟨v1, l1, r1⟩ := q.get el
          exact ⟨a1, C, dx, fv, v1, e5, e3, T1, T2, l1, h v1 H1 s r1⟩
        · exact h.elim
      · exact h.elim
    · exact h.elim⟩
end
end DL
noncomputable section
namespace DL
open PySem PySem.Spec PySem.Calls PyProof.Rows L2
/-! ### a leaner fragment of the heap: each object's names are looked at once -/
def memA (a : Addr) (l : List Addr) : Bool := List.rec (motive := fun _ => Bool) false (fun b _ ih => cond (Nat.beq a b) true ih) l
/-- l's addresses that are not seen yet, ahead of what is seen -/
def addA (l : List Addr) (seen : List Addr) : List Addr := List.rec (motive := fun _ => List Addr → List Addr) (fun s => s) (fun a _ ih s => cond (memA a s) (ih s) (ih (a :: s))) l seen
def refsG (g : Addr → Option Obj) (a : Addr) : List Addr := match g a with
  | some o => He.refsD o
  | none => []
/-- n rounds: what is seen, and how many of it were looked at -/
def asY (g : Addr → Option Obj) : Nat → List Addr × Nat
  | 0 => ([mainGlobals], 0)
  | n + 1 => match asY g n with
    | (seen, k) => (addA ((seen.take (seen.length - k)).flatMap (refsG g)) seen, seen.length)
def fragY (n : Nat) (g : Addr → Option Obj) : PySem.W.Frag := He.frG g ((asY g n).1 ++ [cStatics])
def obsY (n : Nat) (fa : List He.Fa) (fn : List He.DefD) (ts : List He.Tab) (ex : PySem.W.Frag → Bool) (g : Addr → Option Obj) : AlZ := (He.obsT fa fn ts (fragY n g), ex (fragY n g))
def hookY (n : Nat) (fa : List He.Fa) (fn : List He.DefD) (ts : List He.Tab) (ex : PySem.W.Frag → Bool) : PySem.W.Hook where
  α := AlZ
  obs := fun s => obsY n fa fn ts ex s.heap.get?
  val := fun w => (He.valT fn ts w, true)
  says := fun w h => ∃ K : PySem.W.Frag, K.In h ∧ SaysZ fa fn ts ex w K
  of := fun _ _ e => ⟨_, He.frG_in, ⟨congrArg (fun z : AlZ => z.1) e, congrArg (fun z : AlZ => z.2) e⟩⟩
  keeps := fun _ _ _ ⟨K, hK, c⟩ k => ⟨K, PySem.W.Frag.In.keeps hK k, ⟨c.t, c.more⟩⟩
theorem obsY_eq {n : Nat} {fa : List He.Fa} {fn : List He.DefD} {ts : List He.Tab} {ex : PySem.W.Frag → Bool} {g : Addr → Option Obj} {s : Shared} (h : ∀ a, g a = s.heap.get? a) : obsY n fa fn ts ex g = (hookY n fa fn ts ex).obs s := by
  rw [show g = s.heap.get? from funext h] <;> rfl
end DL
noncomputable section
namespace DL
open PySem PySem.Spec PySem.Calls PyProof.Rows L2
/-! ### a def that tells what is new and nobody's -/
def LeafSN (W : Wd) (Wx : WX) (F : Fm) : Ends → RS → Prop := fun G r => match r with
  | .rt d ω => ∀ a ρ σ H L, Rel W F ρ ω L σ H → F.H0 a = none → RepO W H (fun b => FrA L b ∧ b ≠ a) (obs L) true d a → G.rt (.ref a) H
  | .er e ω => ∀ cls dd ρ σ H L, Rel W F ρ ω L σ H → Exc W H e cls dd → Wx cls dd σ H
  | _ => False
def tSN (W : Wd) (Wx : WX) (m : T) : TS := fun G σ H => ∃ F ρ ω L, Rel W F ρ ω L σ H ∧ LeafSN W Wx F G (m F.n0 ρ ω)
structure DSsN (X : Cx) (Wx : WX) (st : List Stmt) (m : T) : Prop where
  pss : PSs X st (tSN (wd X) Wx m)
def LeafCN (W : Wd) (F : Fm) (Q : VK) (E : XK) : RR → Prop
  | .stuck => False
  | .ok d ω => (match d with
    | .lst _ => True
    | _ => False) ∧ ∀ a H' L', Rel W F [] ω L' [] H' → NoSl L' → F.H0 a = none → RepO W H' (fun b => Fr L' [] b ∧ b ≠ a) (obs L') true d a → Q (.ref a) H'
  | .er e ω => ∀ cls dd H' L', Rel W F [] ω L' [] H' → NoSl L' → Exc W H' e cls dd → E cls dd H'
def spN (W : Wd) (n : Nat) (f : Fu) : Sp := fun vs H Q E => vs.length = n ∧ ∃ n0 L ω ds, Rel W ⟨n0, L, H⟩ [] ω L [] H ∧ NoSl L ∧ Reps W H (Fr L []) (obs L) ds vs ∧ LeafCN W ⟨n0, L, H⟩ Q E (f n0 ds ω)
section
variable {X : Cx} {Wx : WX} {pos p : Pos} {e : Expr} {m : M} {B : List Nat} {st : Stmt} {sts : List Stmt} {t u : T}
theorem ns_ret (he : DF X Wx B e m) : DSsN X Wx [.Return (some e) pos] (sRet m) :=
  ⟨PSs.weak' (pss_one (ps_ret he.pe)) fun G σ H ⟨F, ρ, ω, L, R, h⟩ => ⟨F, ρ, ω, L, R, by
    unfold sRet at h
    cases z : m ρ ω with
    | stuck => rw [z] at h; exact h
    | err e => rw [z] at h; exact fun cls dd H' s x => h cls dd ρ σ H' L (R.same s) x
    | ok d =>
      rw [z] at h
      exact fun a H' s hn r => h a ρ σ H' L (R.same s) (R.aft.fresh hn) (RepO.mono ⟨fun b u f _ => ⟨fr_frA f.1, f.2⟩, fun _ _ _ h => h, fun _ _ h => h, fun _ _ h => h⟩ (fun _ h => h) (fun _ h => h) r)⟩⟩
theorem ns_cons (ha : DS X Wx st t) (hb : DSsN X Wx sts u) : DSsN X Wx (st :: sts) (sqZ t u) :=
  ⟨PSs.weak' (pss_cons ha.ps hb.pss) fun G σ H ⟨F, ρ, ω, L, R, h⟩ => ⟨F, ρ, ω, L, R, by
    unfold sqZ at h
    cases z : t F.n0 ρ ω with
    | stuck => rw [z] at h; exact h
    | nx ρ' ω' => rw [z] at h; exact fun σ' H' L' R' => ⟨F, ρ', ω', L', R', h⟩
    | er e ω' => rw [z] at h; exact h
    | rt d ω' => rw [z] at h; exact h.elim
    | bk ρ' ω' => rw [z] at h; exact h.elim
    | ct ρ' ω' => rw [z] at h; exact h.elim⟩⟩
end
section
variable {P : Program} {w : World} {K : PySem.W.Frag} {mg : Str → Option Value} {base : Heap} {x c m qual : Str} {params : Arguments} {body : List Stmt} {scope : Scope} {f C : Addr} {fd : FuncData} {N ps : List Str} {k n : Nat} {g : T}
theorem fnn_ok (F : FunD K x qual params body scope [] [] f fd) (S : FnScope N ps scope)
    (hbody : ∀ (cdv : Value) (A : Around) (outer : List Env) (s : Shared) (H : Hp) (E : XK), Room k (A.deeper (envOfC qual scope s.heap.objs.size f cdv)) →
      DSsN (cxOf (L2.CX P w) P w K mg base N qual scope f cdv A outer s H E) (fun cls d _ H => E cls d H) body g) : FnOk P w K mg base (L2.CX P w) (k + 1) f fd ps (spN ⟨K, mg⟩ ps.length (fuOf N.length g)) := by
  refine F.ok S (fun vs H Q E h => h.1) (fun cdv A outer s H vs Q E hr h => ⟨_, (hbody cdv A outer s H E hr).pss, ?_⟩)
  obtain ⟨hl, n0, L, ω, ds, R, ns, q, h⟩ := h
  refine ⟨⟨n0, L, H⟩, envS N.length ds, ω, L, R.begin q, ?_⟩
  replace h : LeafCN ⟨K, mg⟩ ⟨n0, L, H⟩ Q E (toRR (g n0 (envS N.length ds) ω)) := h
  show LeafSN ⟨K, mg⟩ _ _ _ (g n0 (envS N.length ds) ω)
  cases z : g n0 (envS N.length ds) ω with
  | stuck => rw [z] at h; exact h
  | bk ρ ω => rw [z] at h; exact h.elim
  | ct ρ ω => rw [z] at h; exact h.elim
  | nx ρ' ω' =>
    rw [z] at h
    exact h.1.elim
  | rt d ω' =>
    rw [z] at h
    exact fun a ρ' σ' H' L' R' hn r => h.2 a H' _ R'.strip lcN_no hn (RepO.mono ⟨fun b u f hu => ⟨kp_stripA.s b u f.1 hu, f.2⟩, fun _ _ _ h => h, fun _ _ h => h, fun _ _ h => h⟩ (fun _ h => h) (fun _ h => h) r)
  | er e ω' => rw [z] at h; exact fun cls dd ρ' σ' H' L' R' r => h _ _ H' _ R'.strip lcN_no r
end
structure FcN (P : Program) (w : World) (K : PySem.W.Frag) (mg : Str → Option Value) (base : Heap) (k : Nat) (x : Str) (n : Nat) (g : Fu) : Prop where
  ex : ∃ f fd ps, mg x = some (.ref f) ∧ PySem.W.keepIn K (.ref f) = true ∧ Binds K fd ps [] ∧ ps.length = n ∧ FnOk P w K mg base (L2.CX P w) k f fd ps (spN ⟨K, mg⟩ n g)
section
variable {P : Program} {w : World} {K : PySem.W.Frag} {mg : Str → Option Value} {base : Heap} {x c m qual : Str} {params : Arguments} {body : List Stmt} {scope : Scope} {f C : Addr} {fd : FuncData} {N ps : List Str} {k n : Nat} {g : T}
theorem fcn_ok (F : FunD K x qual params body scope [] [] f fd) (S : FnScope N ps scope) (hm : mg x = some (.ref f)) (hb : Binds K fd ps []) (hn : ps.length = n)
    (hbody : ∀ (cdv : Value) (A : Around) (outer : List Env) (s : Shared) (H : Hp) (E : XK), Room k (A.deeper (envOfC qual scope s.heap.objs.size f cdv)) → DSsN (cxOf (L2.CX P w) P w K mg base N qual scope f cdv A outer s H E) (fun cls d _ H => E cls d H) body g) :
    FcN P w K mg base (k + 1) x n (fuOf N.length g) := by
  subst hn
  exact ⟨f, fd, ps, hm, F.kp, hb, rfl, fnn_ok F S hbody⟩
end
def onlyL : D → Res D
  | .lst xs => .ok (.lst xs)
  | _ => .stuck
@[simp] theorem onlyL_lst {xs : List D} : onlyL (.lst xs) = .ok (.lst xs) := rfl
@[simp] def mCallN (n : Nat) (f : Fu) (ma : MA) : M := fun ρ ω => (mCall n f ma ρ ω).bind onlyL
theorem meth_readN {W : Wd} {Wx : WX} {F : Fm} {ρ : Env'} {ω : Store} {L : Lc} {σ : L2.St} {H : Hp} {Q : VK} {B : List Nat} {ds : List D} {vs : List V} {n : Nat} {g : Fu} (R : Rel W F ρ ω L σ H) (q : Reps W H (Fr L B) (obs L) ds vs) (h : LeafF W Wx L B σ H Q ((if ds.length = n then ofRR ω (g ω.length ds ω) else .stuck).bind onlyL)) : spN W n g vs H Q (fun c d H => Wx c d σ H) := by
  split at h
  case isFalse => exact h.elim
  rename_i hds
  refine ⟨by rw [q.len, hds], ω.length, lcC L B, ω, ds, R.into B ω.length (fun n h1 h2 => absurd h1 (Nat.not_lt.mpr h2)), lcC_no, Reps.mono kp_call ds vs q, ?_⟩
  cases zg : g ω.length ds ω with
  | stuck => rw [zg] at h; exact h
  | er e ω' =>
    rw [zg] at h
    exact fun cls dd H2 L' R' ns x => h cls dd H2 (call_keep R R' (Nat.le_refl _)) x
  | ok d ω' =>
    rw [zg] at h
    replace h : LeafF W Wx L B σ H Q ((if ω'.length = ω.length then Res.ok d else .stuck).bind onlyL) := h
    split at h
    · rename_i hl
      cases d with
      | lst xs => exact ⟨trivial, fun a H2 L' R' ns hn r => h a H2 (call_keep R R' (Nat.le_refl _)) hn (RepO.mono ⟨fun b u f hu => ⟨(call_back R R' (Nat.le_refl _) hl).s b u f.1 hu, f.2⟩, fun _ _ _ h => h, fun _ _ h => h, (call_back R R' (Nat.le_refl _) hl).o⟩ (fun _ h => h) (fun _ h => h) r)⟩
      | _ => exact h.elim
    · exact h.elim
section
variable {X : Cx} {Wx : WX} {pos p : Pos} {e : Expr} {es : List Expr} {B : List Nat} {mr : MA} {x : Str} {j k n : Nat} {g : Fu}
theorem f_callN (c : FcN X.prog X.w X.K X.mg X.base j x n g) (hr : Room k X.A) (tk : Takes X Wx) (ha : DA X Wx B (e :: es) mr) (hg : Gl X x := by rfl) (hj : j ≤ k := by decide) (hdb : (x == ("__debug__" : Str)) = false := by decide)
    (he : starEach (e :: es) X.env = (false, eval e X.env) :: starEach es X.env := by rfl) (hpl : (backTo pos (starEach es X.env)).any (·.1) = false := by rfl) : DF X Wx B (.Call (.Name x p) (e :: es) [] pos) (mCallN n g mr) := by
  obtain ⟨f, fd, ps, h1, h2, h3, rfl, h5⟩ := c.ex
  refine ⟨PE.weak (pe_callSD (h5.mono hj) hr hg h1 h2 h3 .nil (passAt tk) ha.pa hdb he hpl) fun σ H Q ⟨F0, ρ, ω, L, R, h⟩ => ?_⟩
  refine ⟨F0, ρ, ω, L, R, ?_⟩
  unfold mCallN mCall at h
  cases z : mr ρ ω with
  | stuck => rw [z] at h; exact h
  | err e => rw [z] at h; exact h
  | ok ds =>
    rw [z] at h
    intro vs H1 s q
    rw [List.append_nil]
    exact meth_readN (R.same s) q (LeafF.to h s)
end
/-! ### an except suite of more than one statement -/
def RepN (W : Wd) (H0 H : Hp) (d : D) (v : V) : Prop := ∀ S ob, (∀ b, H0 b = none → S b) → Rep W H S ob d v
def RepNs (W : Wd) (H0 H : Hp) (d : List D) (v : List V) : Prop := ∀ S ob, (∀ b, H0 b = none → S b) → Reps W H S ob d v
abbrev Gam := List (Nat × (Er → Option D))
def Knows (W : Wd) (Γ : Gam) (er : Er) (σ : L2.St) (H0 H : Hp) : Prop := ∀ q ∈ Γ, ∃ v dj, q.2 er = some dj ∧ σ[q.1]? = some (some v) ∧ RepN W H0 H dj v
theorem Knows.same {W : Wd} {Γ : Gam} {er : Er} {σ : L2.St} {H0 H H' : Hp} (k : Knows W Γ er σ H0 H) (s : Same H H') : Knows W Γ er σ H0 H' := fun q hq => by
  obtain ⟨v, dj, e1, e2, e3⟩ := k q hq
  exact ⟨v, dj, e1, e2, fun S ob h => Rep.same (e3 S ob h) s⟩
structure DE2 (X : Cx) (i : Nat) (Γ : Gam) (e : Expr) (g : Er → Option D) : Prop where
  ex : ∃ te : Addr → Value → Option Addr → TE, (∀ a oe cls d pn, Zc cls d oe → (∃ vs, oe.data = .fields vs) → PE (X.suite a ((a, oe) :: pn)) e (te a cls d)) ∧
    ∀ a cls d er σ H0 H Q dd, g er = some dd → σ[i]? = some (some (.ref a)) → Exc (wd X) H er cls d → Same H0 H → Knows (wd X) Γ er σ H0 H → (∀ v H', Same H H' → RepN (wd X) H0 H' dd v → Q v H') → te a cls d σ H Q
structure DE2s (X : Cx) (i : Nat) (Γ : Gam) (es : List Expr) (g : Er → Option (List D)) : Prop where
  ex : ∃ te : Addr → Value → Option Addr → TA, (∀ a oe cls d pn, Zc cls d oe → (∃ vs, oe.data = .fields vs) → PA (X.suite a ((a, oe) :: pn)) es (te a cls d)) ∧
    ∀ a cls d er σ H0 H Q dd, g er = some dd → σ[i]? = some (some (.ref a)) → Exc (wd X) H er cls d → Same H0 H → Knows (wd X) Γ er σ H0 H → (∀ v H', Same H H' → RepNs (wd X) H0 H' dd v → Q v H') → te a cls d σ H Q
structure SU (X : Cx) (i : Nat) (Γ : Gam) (sts : List Stmt) (g : Er → Option D) : Prop where
  ex : ∃ ts : Addr → Value → Option Addr → TS, (∀ a oe cls d pn, Zc cls d oe → (∃ vs, oe.data = .fields vs) → PSs (X.suite a ((a, oe) :: pn)) sts (ts a cls d)) ∧
    ∀ a cls d er σ H0 H G dd, g er = some dd → σ.length = X.N.length → σ[i]? = some (some (.ref a)) → Exc (wd X) H er cls d → Same H0 H → Knows (wd X) Γ er σ H0 H → (∀ v H', Same H0 H' → RepN (wd X) H0 H' dd v → G.rt v H') → ts a cls d G σ H
section
variable {X : Cx} {Wx : WX} {i j : Nat} {x y : Str} {pos p pt np pos' rp : Pos} {e : Expr} {es : List Expr} {sts : List Stmt} {g g1 : Er → Option D} {gs : Er → Option (List D)} {Γ Γ' : Gam}
theorem g_of (h : DE X i e g) : DE2 X i Γ e g := by
  obtain ⟨te, h1, h2⟩ := h.ex
  exact ⟨te, h1, fun a cls d er σ H0 H Q dd eg hs xx s0 kn q => h2 a cls d er σ H Q dd eg hs xx fun v H' s r => q v H' s fun S ob _ => r S ob⟩
theorem g_var (j : Nat) (hm : (j, g) ∈ Γ) (hN : X.N[j]? = some y) (hv : Vis X.env.scope y) (hd : (y == ("__debug__" : Str)) = false := by decide) (hcd : (y == ("__classdict__" : Str)) = false := by decide) : DE2 X i Γ (.Name y p) g :=
  ⟨fun _ _ _ => tVar j, fun a oe cls d pn _ _ => pe_var (X := X.suite a ((a, oe) :: pn)) hN hv hd hcd, fun a cls d er σ H0 H Q dd eg hs xx s0 kn q => by
    obtain ⟨v, dj, e1, e2, e3⟩ := kn _ hm
    have : dj = dd := Option.some.inj (e1.symm.trans eg)
    subst this
    exact ⟨v, e2, q v H (Same.refl H) e3⟩⟩
theorem gg_nil : DE2s X i Γ [] (fun _ => some []) := ⟨fun _ _ _ => tNil, fun a oe cls d pn _ _ => pa_nil, fun a cls d er σ H0 H Q dd eg _ _ _ _ h => by cases eg; exact h [] H (Same.refl H) (fun _ _ _ => rfl)⟩
theorem gg_cons (h : DE2 X i Γ e g) (t : DE2s X i Γ es gs) (he : starEach (e :: es) X.env = (false, eval e X.env) :: starEach es X.env := by rfl) : DE2s X i Γ (e :: es) (fun er => (g er).bind fun d => (gs er).map fun ds => d :: ds) := by
  obtain ⟨te, h1, h2⟩ := h.ex
  obtain ⟨ta, t1, t2⟩ := t.ex
  refine ⟨fun a cls d => tCons (te a cls d) (ta a cls d), fun a oe cls d pn hz hf => pa_cons (h1 a oe cls d pn hz hf) (t1 a oe cls d pn hz hf) he, fun a cls d er σ H0 H Q dd eg hs xx s0 kn q => ?_⟩
  cases e1 : g er with
  | none => rw [e1] at eg; cases eg
  | some d1 =>
    rw [e1] at eg
    cases e2 : gs er with
    | none => rw [e2] at eg; cases eg
    | some d2 =>
      rw [e2] at eg
      cases eg
      refine h2 a cls d er σ H0 H _ d1 e1 hs xx s0 kn fun v H1 s1 r1 => ?_
      exact t2 a cls d er σ H0 H1 _ d2 e2 hs (xx.same s1) (s0.trans s1) (kn.same s1) fun vs H2 s2 r2 => q _ H2 (s1.trans s2) fun S ob hS => ⟨v, vs, rfl, Rep.same (r1 S ob hS) s2, r2 S ob hS⟩
theorem gg_tup {k} (t : DE2s X i Γ es gs) : DE2 X i Γ (.Tuple es k pos) (fun er => (gs er).bind fun ds => if ds.length ≤ 100 then some (.tup ds) else none) := by
  obtain ⟨ta, t1, t2⟩ := t.ex
  refine ⟨fun a cls d => tTup (ta a cls d), fun a oe cls d pn hz hf => pe_tup (t1 a oe cls d pn hz hf), fun a cls d er σ H0 H Q dd eg hs xx s0 kn q => ?_⟩
  cases e2 : gs er with
  | none => rw [e2] at eg; cases eg
  | some ds =>
    rw [e2] at eg
    replace eg : (if ds.length ≤ 100 then some (D.tup ds) else none) = some dd := eg
    split at eg
    · rename_i hl
      cases eg
      refine t2 a cls d er σ H0 H _ ds e2 hs xx s0 kn fun vs H2 s2 r2 => ⟨by rw [(r2 (fun _ => True) (fun _ => none) (fun _ _ => trivial)).len, sizeLine_eq]; omega, fun z hz => ?_⟩
      have sm := same_upd (o := .tup vs) hz
      exact q _ _ (s2.trans sm) fun S ob hS => ⟨z, vs, rfl, upd_same, Reps.same (r2 S ob hS) sm⟩
    · cases eg
theorem gg_lst (t : DE2s X i Γ es gs) : DE2 X i Γ (.List es pos) (fun er => (gs er).bind fun ds => if ds.length ≤ 100 then some (.lst ds) else none) := by
  obtain ⟨ta, t1, t2⟩ := t.ex
  refine ⟨fun a cls d => tLst (ta a cls d), fun a oe cls d pn hz hf => pe_lst (t1 a oe cls d pn hz hf), fun a cls d er σ H0 H Q dd eg hs xx s0 kn q => ?_⟩
  cases e2 : gs er with
  | none => rw [e2] at eg; cases eg
  | some ds =>
    rw [e2] at eg
    replace eg : (if ds.length ≤ 100 then some (D.lst ds) else none) = some dd := eg
    split at eg
    · rename_i hl
      cases eg
      refine t2 a cls d er σ H0 H _ ds e2 hs xx s0 kn fun vs H2 s2 r2 => ⟨by rw [(r2 (fun _ => True) (fun _ => none) (fun _ _ => trivial)).len, sizeLine_eq]; omega, fun z hz => ?_⟩
      have sm := same_upd (o := .lst vs) hz
      exact q _ _ (s2.trans sm) fun S ob hS => ⟨z, vs, rfl, hS z (none_back (s0.trans s2) z hz), upd_same, Reps.same (r2 S ob hS) sm⟩
    · cases eg
theorem su_ret (he : DE2 X i Γ e g) : SU X i Γ [.Return (some e) rp] g := by
  obtain ⟨te, h1, h2⟩ := he.ex
  exact ⟨fun a cls d => tRet (te a cls d), fun a oe cls d pn hz hf => pss_one (ps_ret (h1 a oe cls d pn hz hf)), fun a cls d er σ H0 H G dd eg hl hs xx s0 kn q => h2 a cls d er σ H0 H _ dd eg hs xx s0 kn fun v H' s r => q v H' (s0.trans s) r⟩
theorem su_set (he : DE2 X i Γ e g1) (hr : SU X i ((j, g1) :: Γ') sts g) (hN : X.N.Nodup) (hj : X.N[j]? = some y) (hx : Loc X.env.scope y) (hji : j ≠ i) (hΓ : ∀ q ∈ Γ', q ∈ Γ ∧ q.1 ≠ j) (hs : swapsWith e (some (.Name y p)) pos.line X.env = pure false := by rfl)
    (hf : X.fn y = true ∨ X.env.scope.names.lookup y = some .local := by first | exact .inl rfl | exact .inr rfl | assumption) : SU X i Γ (.Assign [.Name y p] e pos :: sts) (fun er => (g1 er).bind fun _ => g er) := by
  obtain ⟨te, h1, h2⟩ := he.ex
  obtain ⟨ts, t1, t2⟩ := hr.ex
  refine ⟨fun a cls d => tSeq (tAsg (te a cls d) (gName j)) (ts a cls d), fun a oe cls d pn hz hff => pss_cons (ps_set (X := X.suite a ((a, oe) :: pn)) hN hj hx (h1 a oe cls d pn hz hff) hs hf) (t1 a oe cls d pn hz hff), fun a cls d er σ H0 H G dd eg hl hs xx s0 kn q => ?_⟩
  cases e1 : g1 er with
  | none => rw [e1] at eg; cases eg
  | some d1 =>
    rw [e1] at eg
    have hjl : j < σ.length := by
      have := (List.getElem?_eq_some_iff.mp hj).1
      omega
    refine h2 a cls d er σ H0 H _ d1 e1 hs xx s0 kn fun v H1 s1 r1 => ?_
    refine t2 a cls d er _ H0 H1 _ dd eg (by rw [List.length_set]; exact hl) (by rw [List.getElem?_set_ne hji]; exact hs) (xx.same s1) (s0.trans s1) (fun z hz => ?_) q
    rcases List.mem_cons.mp hz with r | hz
    · subst r
      exact ⟨v, d1, e1, by rw [List.getElem?_set_self hjl], r1⟩
    · obtain ⟨m1, m2⟩ := hΓ z hz
      obtain ⟨w, dj, f1, f2, f3⟩ := kn z m1
      exact ⟨w, dj, f1, by rw [List.getElem?_set_ne (Ne.symm m2)]; exact f2, fun S ob h => Rep.same (f3 S ob h) s1⟩
theorem s_trySu {c : Value} {n : Str} {b0 : Stmt} {body suite : List Stmt} {mb : T} (cs : List Str) (hit : Str → Bool) (hN : X.N.Nodup) (hi : X.N[i]? = some n) (hln : X.env.kindOf n = some .local) (hc : Names X x c) (tk : Takes X Wx) (T : ∀ k ∈ cs, ∀ C, X.mg k = some (.ref C) → PySem.W.exmOne X.K (.ref C) c = some (hit k))
    (hb : ∀ (W : WX) (pn : List (Addr × Obj)) (xe : Value → Shared → Prop), Takes (X.tr pn xe) W → PassesOwn (model X.prog X.w) X.A X.env xe → DSs (X.tr pn xe) W body mb) (he : SU X i [] (b0 :: suite) g) (hs : X.stack = X.env :: X.outer := by rfl) (hf : X.env.frame = some X.env.locals := by rfl) :
    DS X Wx (.Try body [.ExceptHandler (some (.Name x np)) (some n) (b0 :: suite) pos'] [] [] pos) (sTry cs hit mb g) := by
  obtain ⟨ts, h1, h2⟩ := he.ex
  refine ⟨PS.weak (ps_try_as (tb := fun W => tS (wd X) W mb) (ts := fun a cls d D σ H => σ.length = X.N.length → ts a cls d D σ H) hs hf hN hi hln hc tk (fun W pn xe tk' hp => (hb W pn xe tk' hp).pss) fun a oe cls d pn hz hff => ⟨fun pins s σ H D I q => (h1 a oe cls d pn hz hff).run pins s σ H D I (q I.len)⟩) fun G σ H ⟨F, ρ, ω, L, R, h⟩ => ⟨F, ρ, ω, L, R, ?_⟩⟩
  unfold sTry at h
  cases zb : mb F.n0 ρ ω with
  | stuck => rw [zb] at h; exact h
  | nx ρ' ω' => rw [zb] at h; exact h
  | rt d ω' => rw [zb] at h; exact h
  | bk ρ' ω' => rw [zb] at h; exact h
  | ct ρ' ω' => rw [zb] at h; exact h
  | er er ω' =>
    rw [zb] at h
    intro cls dd ρ' σ' H' L' R' xx
    replace h : LeafS (wd X) Wx F G (if er.cls ∈ cs then (if hit er.cls = true then (match g er with
      | some d => .rt d ω'
      | none => .stuck) else .er er ω') else .stuck) := h
    split at h
    · rename_i hm
      obtain ⟨C, d, e1, e2, e3, e4⟩ := xx.at_
      refine ⟨hit er.cls, by rw [e2]; exact T _ hm C e1, fun hb a ha hlen => ?_, fun hb => ?_⟩
      · rw [if_pos hb] at h
        cases zg : g er with
        | none => rw [zg] at h; exact h.elim
        | some d2 =>
          rw [zg] at h
          have hl : i < X.N.length := (List.getElem?_eq_some_iff.mp hi).1
          refine h2 a cls dd er _ H' H' _ d2 zg hlen ?_ xx (Same.refl H') (fun q hq => (nomatch hq)) fun v H2 s2 r => h v ρ' σ' H2 L' (R'.same s2) (r _ _ fun b hb => fr_frA (R'.al.fr hb []))
          rw [List.getElem?_set_self (by rw [List.length_set] at hlen; omega)]
      · rw [if_neg (by rw [hb]; exact Bool.false_ne_true)] at h
        exact h cls dd ρ' σ' H' L' R' xx
    · exact h.elim
end
end DL
noncomputable section
namespace DL
open PySem PySem.Spec PySem.Calls PyProof.Rows L2
/-! ### a displayed dict of two texts -/
section
variable {X : Cx} {Wx : WX} {pos p1 p2 : Pos} {a b : Expr} {Ba Bb : List Nat} {m1 m2 : M} {k1 k2 : Str} {j1 j2 : Nat}
@[simp] def mDisp2 (k1 k2 : Str) (m1 m2 : M) : M := fun ρ ω => (m1 ρ ω).bind fun d1 => (m2 ρ ω).bind fun d2 => if D.free d1 = true ∧ D.free d2 = true then .ok (.dK [(.inr k1, d1), (.inr k2, d2)]) else .stuck
theorem free_any {W : Wd} {H H' : Hp} {S S' : Addr → Prop} {ob : Nat → Option Addr} {d : D} {v : V} (hf : D.free d = true) (ht : ∀ a xs, H a = some (.tup xs) → H' a = some (.tup xs)) (r : Rep W H S ob d v) : Rep W H' S' ob d v := by
  have r1 : Rep W H (fun _ => False) ob d v := D.free_rep d v hf r
  have r2 : Rep W H' (fun _ => False) ob d v := Rep.mono ⟨fun _ _ h => h.elim, fun _ _ h => h.elim, ht, fun _ _ h => h⟩ d v r1
  exact D.free_rep d v hf r2
theorem f_disp2 (h1 : DP X Wx Ba a m1) (h2 : DP X Wx Bb b m2) (hk : ∀ v1 v2 : V, mergeK [] [((.inr k1 : Key), v1), (.inr k2, v2)] = [(.inr k1, v1), (.inr k2, v2)]) : DF X Wx [] (.Dict [some (.Constant (.str k1) j1 p1), some (.Constant (.str k2) j2 p2)] [a, b] pos) (mDisp2 k1 k2 m1 m2) :=
  ⟨PE.weak (pe_disp (pps_cons pe_str h1.pe (pps_cons pe_str h2.pe pps_nil)) rfl rfl (by simp) (by simp)) fun σ H Q ⟨F, ρ, ω, L, R, h⟩ => by
    intro z hz
    have s0 := same_upd (o := .dK []) hz
    unfold mDisp2 at h
    refine ⟨F, ρ, ω, L, R.same s0, ?_⟩
    cases z1 : m1 ρ ω with
    | stuck => rw [z1] at h; exact h
    | err e => rw [z1] at h; exact fun c d H' s x => h c d H' (s0.trans s) x
    | ok d1 =>
      rw [z1] at h
      intro v1 H1 s1 r1
      refine ⟨F, ρ, ω, L, (R.same s0).same s1, ?_⟩
      cases z2 : m2 ρ ω with
      | stuck => rw [z2] at h; exact h
      | err e => rw [z2] at h; exact fun c d H' s x => h c d H' ((s0.trans s1).trans s) x
      | ok d2 =>
        rw [z2] at h
        intro v2 H2 s2 r2
        replace h : LeafF (wd X) Wx L [] σ H Q (if D.free d1 = true ∧ D.free d2 = true then .ok (.dK [(.inr k1, d1), (.inr k2, d2)]) else .stuck) := h
        split at h
        case isFalse => exact h.elim
        rename_i hf
        have e2 : H2 z = some (.dK []) := s2 _ _ (s1 _ _ upd_same)
        refine ⟨e2, [(.inr k1, v1), (.inr k2, v2)], rfl, by simp, ?_⟩
        rw [hk]
        have ht : ∀ a xs, H2 a = some (.tup xs) → upd H2 z (.dK [(.inr k1, v1), (.inr k2, v2)]) a = some (.tup xs) := fun a xs q => by
          rw [upd_ne (fun e => by rw [e, e2] at q; cases q)]; exact q
        refine h z _ (fun b w hw => ?_) hz ⟨_, .of upd_same, v1, _, rfl, free_any hf.1 (fun a xs q => ht a xs (s2 _ _ q)) r1, v2, [], rfl, free_any hf.2 ht r2, rfl⟩
        rw [upd_ne (fun e => by rw [e, hz] at hw; cases hw)]
        exact s2 _ _ (s1 _ _ (s0 _ _ hw))⟩
end
/-! ### a tuple with a new dict in it, which changes, and is told -/
structure Hold (W : Wd) (F : Fm) (ρ : Env') (ω : Store) (L : Lc) (σ : L2.St) (H : Hp) (i c : Nat) (ds1 : List D) (kvs : List (Key × D)) (ds2 : List D) : Prop where
  ex : ∃ (H0 : Hp) (t a5 : Addr) (vs1 vs2 : List V) (kv : List (Key × V)), Rel W F ρ ω L σ H0 ∧ Same H0 H ∧ H0 a5 = none ∧ σ[i]? = some (some (.ref t)) ∧ H t = some (.tup (vs1 ++ .ref a5 :: vs2)) ∧ vs1.length = c ∧ H a5 = some (.dK kv) ∧
    RepK W H (Fn L [] a5) (obs L) kvs kv ∧ Reps W H (Fn L [] a5) (obs L) ds1 vs1 ∧ Reps W H (Fn L [] a5) (obs L) ds2 vs2
abbrev Qm := Env' → Store → List (Key × D) → Option (List (Key × D))
def tQ (W : Wd) (i c : Nat) (q : Qm) : TS := fun G σ H => ∃ F ρ ω L ds1 kvs ds2, Hold W F ρ ω L σ H i c ds1 kvs ds2 ∧ ∃ kvs', q ρ ω kvs = some kvs' ∧ ∀ H', Hold W F ρ ω L σ H' i c ds1 kvs' ds2 → G.nx σ H'
structure DQ (X : Cx) (i c : Nat) (st : Stmt) (q : Qm) : Prop where
  ps : PS X st (tQ (wd X) i c q)
structure DQs (X : Cx) (i c : Nat) (sts : List Stmt) (q : Qm) : Prop where
  pss : PSs X sts (tQ (wd X) i c q)
def qNever : Qm := fun _ _ _ => none
@[simp] def qIf (tt : Env' → Store → Res Bool) (q1 q2 : Qm) : Qm := fun ρ ω kvs => match tt ρ ω with
  | .ok true => q1 ρ ω kvs
  | .ok false => q2 ρ ω kvs
  | _ => none
@[simp] def qPut (mk m : M) : Qm := fun ρ ω kvs => match m ρ ω with
  | .ok d => (match mk ρ ω with
    | .ok y => (match D.flatK y with
      | some k => if D.free d = true ∧ kvs.length < 1000 then some (putD kvs k d) else none
      | none => none)
    | _ => none)
  | _ => none
@[simp] def qPop (mk : M) : Qm := fun ρ ω kvs => match mk ρ ω with
  | .ok y => (match D.flatK y with
    | some k => (match kget kvs k with
      | some _ => some (dropD kvs k)
      | none => none)
    | none => none)
  | _ => none
section
variable {X : Cx} {Wx : WX} {pos p p2 p3 pos' apos cpos rp pt : Pos} {c e kx : Expr} {es : List Expr} {sts rest : List Stmt} {i n : Nat} {jj : Nat} {x : Str} {m mk m5 : M} {ma mb : MA} {B Bk : List Nat} {q q1 q2 : Qm} {st : Stmt} {tt : Env' → Store → Res Bool}
theorem Hold.same {W : Wd} {F : Fm} {ρ : Env'} {ω : Store} {L : Lc} {σ : L2.St} {H H' : Hp} {ds1 ds2 : List D} {kvs : List (Key × D)} (h : Hold W F ρ ω L σ H i n ds1 kvs ds2) (s : Same H H') : Hold W F ρ ω L σ H' i n ds1 kvs ds2 := by
  obtain ⟨H0, t, a5, vs1, vs2, kv, h1, h2, h3, h4, h5, h6, h7, h8, h9, h10⟩ := h.ex
  exact ⟨H0, t, a5, vs1, vs2, kv, h1, h2.trans s, h3, h4, s _ _ h5, h6, s _ _ h7, RepK.mono (Kp.same s) _ _ h8, Reps.mono (Kp.same s) _ _ h9, Reps.mono (Kp.same s) _ _ h10⟩
theorem Hold.rel {W : Wd} {F : Fm} {ρ : Env'} {ω : Store} {L : Lc} {σ : L2.St} {H : Hp} {ds1 ds2 : List D} {kvs : List (Key × D)} (h : Hold W F ρ ω L σ H i n ds1 kvs ds2) : Rel W F ρ ω L σ H := by
  obtain ⟨H0, t, a5, vs1, vs2, kv, h1, h2, _⟩ := h.ex
  exact h1.same h2
theorem dq_never : DQ X i n st qNever := ⟨PS.weak ps_never fun G σ H ⟨_, _, _, _, _, _, _, _, _, e, _⟩ => (nomatch e)⟩
theorem dqs_never : DQs X i n sts qNever := ⟨PSs.weak' pss_never fun G σ H ⟨_, _, _, _, _, _, _, _, _, e, _⟩ => (nomatch e)⟩
theorem dq_one (h : DQ X i n st q) : DQs X i n [st] q := ⟨pss_one h.ps⟩
theorem dq_if (hc : DB X Wx c tt) (h1 : DQs X i n sts q1) (h2 : DQs X i n rest q2) : DQ X i n (.If c sts rest pos) (qIf tt q1 q2) :=
  ⟨PS.weak (ps_if hc.pt h1.pss h2.pss) fun G σ H ⟨F, ρ, ω, L, ds1, kvs, ds2, h, kvs', e, g⟩ => by
    refine ⟨F, ρ, ω, L, h.rel, ?_⟩
    unfold qIf at e
    cases z : tt ρ ω with
    | stuck => rw [z] at e; cases e
    | err x => rw [z] at e; cases e
    | ok k =>
      rw [z] at e
      intro H' s
      cases k with
      | true => exact ⟨F, ρ, ω, L, ds1, kvs, ds2, h.same s, kvs', e, g⟩
      | false => exact ⟨F, ρ, ω, L, ds1, kvs, ds2, h.same s, kvs', e, g⟩⟩
theorem hold_upd {W : Wd} {F : Fm} {ρ : Env'} {ω : Store} {L : Lc} {σ : L2.St} {H H0 : Hp} {ds1 ds2 : List D} {kvs' : List (Key × D)} {t a5 : Addr} {vs1 vs2 : List V} {kv kv' : List (Key × V)} (h1 : Rel W F ρ ω L σ H0) (h2 : Same H0 H) (h3 : H0 a5 = none) (h4 : σ[i]? = some (some (.ref t)))
    (h5 : H t = some (.tup (vs1 ++ .ref a5 :: vs2))) (h6 : vs1.length = n) (h7 : H a5 = some (.dK kv)) (h9 : Reps W H (Fn L [] a5) (obs L) ds1 vs1) (h10 : Reps W H (Fn L [] a5) (obs L) ds2 vs2)
    (hr : ∀ (kp : Kp H (upd H a5 (.dK kv')) (Fn L [] a5) (Fn L [] a5) (obs L) (obs L)), RepK W (upd H a5 (.dK kv')) (Fn L [] a5) (obs L) kvs' kv') : Hold W F ρ ω L σ (upd H a5 (.dK kv')) i n ds1 kvs' ds2 := by
  have kp : Kp H (upd H a5 (.dK kv')) (Fn L [] a5) (Fn L [] a5) (obs L) (obs L) := ⟨fun b u f _ => f, fun b u f h => by rw [upd_ne f.2]; exact h, fun b xs h => by
    rw [upd_ne (fun e => by rw [e, h7] at h; cases h)]; exact h, fun _ _ h => h⟩
  exact ⟨H0, t, a5, vs1, vs2, kv', h1, fun b w hw => by
    rw [upd_ne (fun e => by rw [e, h3] at hw; cases hw)]; exact h2 b w hw, h3, h4, by
    rw [upd_ne (fun e => by rw [e, h7] at h5; cases h5)]; exact h5, h6, upd_same, hr kp, Reps.mono kp _ _ h9, Reps.mono kp _ _ h10⟩
theorem at_mid {vs1 vs2 : List V} {v : V} : atI (vs1 ++ v :: vs2) (vs1.length : Int) = some v := atI_nat (by
  rw [List.getElem?_append_right (Nat.le_refl _), Nat.sub_self]; rfl)
theorem dq_put (n : Nat) {z : Int} (hu : X.A.units + 64 < cLine) (hk : DU X Wx Bk kx mk) (he : DP X Wx B e m) (hN : X.N[i]? = some x := by rfl) (hv : Vis X.env.scope x := by first | exact Or.inl rfl | exact Or.inr (Or.inl rfl) | exact Or.inr (Or.inr rfl)) (hz : z = (n : Int) := by rfl) (hd : (x == ("__debug__" : Str)) = false := by decide)
    (hcd : (x == ("__classdict__" : Str)) = false := by decide) (hs : swapsWith e (some (.Subscript (.Subscript (.Name x p) (.Constant (.int z) jj p2) p3) kx pos')) pos.line X.env = pure false := by rfl) : DQ X i n (.Assign [.Subscript (.Subscript (.Name x p) (.Constant (.int z) jj p2) p3) kx pos'] e pos) (qPut mk m) :=
  ⟨PS.weak (ps_dput (by omega) (pe_ix ix_tup (pe_var (i := i) hN hv hd hcd) pe_int (fun _ _ => rfl)) hk.pe he.pe hs) fun G σ H ⟨F, ρ, ω, L, ds1, kvs, ds2, h, kvs', eq, g⟩ => by
    refine ⟨F, ρ, ω, L, h.rel, ?_⟩
    unfold qPut at eq
    cases z1 : m ρ ω with
    | stuck => rw [z1] at eq; cases eq
    | err e => rw [z1] at eq; cases eq
    | ok d =>
      rw [z1] at eq
      dsimp only at eq
      intro v H1 s1 r1
      have h1 := h.same s1
      cases z2 : mk ρ ω with
      | stuck => rw [z2] at eq; cases eq
      | err e => rw [z2] at eq; cases eq
      | ok y =>
        rw [z2] at eq
        dsimp only at eq
        split at eq
        · rename_i k hky
          split at eq
          · rename_i hf
            cases eq
            obtain ⟨H0, t, a5, vs1, vs2, kv, f1, f2, f3, f4, f5, f6, f7, f8, f9, f10⟩ := h1.ex
            refine ⟨.ref t, f4, t, _, z, .ref a5, rfl, rfl, SqT.of f5, by rw [hz, ← f6]; exact at_mid, F, ρ, ω, L, h1.rel, ?_⟩
            rw [z2]
            intro w H3 s3 qk
            have hw := flatK_ok hky qk
            rw [hw]
            refine ⟨a5, _, rfl, DPut.k (s3 _ _ f7) (by rw [repK_len f8, sizeLine_eq]; omega), g _ ?_⟩
            refine hold_upd f1 (f2.trans s3) f3 f4 (s3 _ _ f5) f6 (s3 _ _ f7) (Reps.mono (Kp.same s3) _ _ f9) (Reps.mono (Kp.same s3) _ _ f10) fun kp => ?_
            exact repK_put (RepK.mono kp _ _ (RepK.mono (Kp.same s3) _ _ f8)) (free_any hf.1 (fun a xs q => kp.t a xs (s3 _ _ q)) r1)
          · cases eq
        · cases eq⟩
theorem dq_pop (n : Nat) {z : Int} (hk : DU X Wx Bk kx mk) (hN : X.N[i]? = some x := by rfl) (hv : Vis X.env.scope x := by first | exact Or.inl rfl | exact Or.inr (Or.inl rfl) | exact Or.inr (Or.inr rfl)) (hz : z = (n : Int) := by rfl) (hd : (x == ("__debug__" : Str)) = false := by decide)
    (hcd : (x == ("__classdict__" : Str)) = false := by decide) (hm : M1 X (.Subscript (.Name x p) (.Constant (.int z) jj p2) p3) "pop" apos kx cpos := by exact ⟨rfl, rfl, rfl, rfl⟩)
    (hsw : swapsWith (.Call (.Attribute (.Subscript (.Name x p) (.Constant (.int z) jj p2) p3) "pop" apos) [kx] [] cpos) none pos.line X.env = pure false := by rfl) : DQ X i n (.Expr (.Call (.Attribute (.Subscript (.Name x p) (.Constant (.int z) jj p2) p3) "pop" apos) [kx] [] cpos) pos) (qPop mk) :=
  ⟨PS.weak (ps_expr (pe_dpop1 (pe_ix ix_tup (pe_var (i := i) hN hv hd hcd) pe_int (fun _ _ => rfl)) hk.pe hm) hsw) fun G σ H ⟨F, ρ, ω, L, ds1, kvs, ds2, h, kvs', eq, g⟩ => by
    unfold qPop at eq
    cases z2 : mk ρ ω with
    | stuck => rw [z2] at eq; cases eq
    | err e => rw [z2] at eq; cases eq
    | ok y =>
      rw [z2] at eq
      dsimp only at eq
      split at eq
      · rename_i k hky
        split at eq
        · rename_i d0 hget
          cases eq
          obtain ⟨H0, t, a5, vs1, vs2, kv, f1, f2, f3, f4, f5, f6, f7, f8, f9, f10⟩ := h.ex
          refine ⟨.ref t, f4, t, _, z, .ref a5, rfl, rfl, SqT.of f5, by rw [hz, ← f6]; exact at_mid, a5, rfl, .inl ⟨kv, .inl f7⟩, F, ρ, ω, L, h.rel, ?_⟩
          rw [z2]
          intro w H3 s3 qk
          have gg := repK_get (W := wd X) (H := H) k f8
          rw [hget] at gg
          obtain ⟨v0, g1, _⟩ := gg
          refine ⟨kv, k, v0, s3 _ _ f7, flatK_ok hky qk, g1, g _ ?_⟩
          refine hold_upd f1 (f2.trans s3) f3 f4 (s3 _ _ f5) f6 (s3 _ _ f7) (Reps.mono (Kp.same s3) _ _ f9) (Reps.mono (Kp.same s3) _ _ f10) fun kp => ?_
          exact RepK.mono kp _ _ (repK_drop (RepK.mono (Kp.same s3) _ _ f8))
        · cases eq
      · cases eq⟩
/-! the display -/
def LeafH (W : Wd) (L : Lc) (H : Hp) (c : Nat) (Q : List V → Hp → Prop) (r1 : Res (List D)) (r5 : Res D) (r2 : Res (List D)) : Prop := match r1, r5, r2 with
  | .ok ds1, .ok (.dK kvs), .ok ds2 => D.frees ds2 = true ∧ ds1.length = c ∧ ∀ vs1 a5 vs2 kv H', Same H H' → H a5 = none → H' a5 = some (.dK kv) → RepK W H' (Fn L [] a5) (obs L) kvs kv → Reps W H' (Fn L [] a5) (obs L) ds1 vs1 → Reps W H' (Fn L [] a5) (obs L) ds2 vs2 → Q (vs1 ++ .ref a5 :: vs2) H'
  | _, _, _ => False
structure DH (X : Cx) (es : List Expr) (c : Nat) (ma : MA) (m5 : M) (mb : MA) : Prop where
  pa : PA X es (fun σ H Q => ∃ F ρ ω L, Rel (wd X) F ρ ω L σ H ∧ LeafH (wd X) L H c Q (ma ρ ω) (m5 ρ ω) (mb ρ ω))
theorem h_here (h5 : DF X Wx [] e m5) (hb : DA X Wx [] es mb) (hs : starEach (e :: es) X.env = (false, eval e X.env) :: starEach es X.env := by rfl) : DH X (e :: es) 0 aNil m5 mb :=
  ⟨PA.weak (pa_cons h5.pe hb.pa hs) fun σ H Q ⟨F, ρ, ω, L, R, h⟩ => ⟨F, ρ, ω, L, R, by
    unfold LeafH at h
    cases z5 : m5 ρ ω with
    | stuck => rw [z5] at h; exact h.elim
    | err e => rw [z5] at h; exact h.elim
    | ok d =>
      rw [z5] at h
      cases d with
      | dK kvs =>
        cases z2 : mb ρ ω with
        | stuck => rw [z2] at h; exact h.elim
        | err e => rw [z2] at h; exact h.elim
        | ok ds2 =>
          rw [z2] at h
          obtain ⟨hf, _, g⟩ := h
          intro a H' s hn r
          obtain ⟨vs, ha, rk⟩ := r
          have ha := ha.1 rfl
          refine ⟨F, ρ, ω, L, R.same s, ?_⟩
          rw [z2]
          intro vs2 H2 s2 r2
          refine g [] a vs2 vs H2 (s.trans s2) hn (s2 _ _ ha) (RepK.mono (Kp.same s2) _ _ rk) rfl (D.frees_rep ds2 vs2 hf r2)
      | _ => exact h.elim⟩⟩
theorem h_cons {c : Nat} (ha : DP X Wx [] e m) (h : DH X es c ma m5 mb) (hs : starEach (e :: es) X.env = (false, eval e X.env) :: starEach es X.env := by rfl) : DH X (e :: es) (c + 1) (aCons m ma) m5 mb :=
  ⟨PA.weak (pa_cons ha.pe h.pa hs) fun σ H Q ⟨F, ρ, ω, L, R, h⟩ => ⟨F, ρ, ω, L, R, by
    have key : ∃ d ds1 kvs ds2, m ρ ω = .ok d ∧ ma ρ ω = .ok ds1 ∧ m5 ρ ω = .ok (.dK kvs) ∧ mb ρ ω = .ok ds2 ∧ LeafH (wd X) L H (c + 1) Q (.ok (d :: ds1)) (.ok (.dK kvs)) (.ok ds2) := by
      unfold aCons at h
      cases z : m ρ ω with
      | stuck => rw [z] at h; exact h.elim
      | err e => rw [z] at h; exact h.elim
      | ok d =>
        rw [z] at h
        cases z1 : ma ρ ω with
        | stuck => rw [z1] at h; exact h.elim
        | err e => rw [z1] at h; exact h.elim
        | ok ds1 =>
          rw [z1] at h
          cases z5 : m5 ρ ω with
          | stuck => rw [z5] at h; exact h.elim
          | err e => rw [z5] at h; exact h.elim
          | ok d5 =>
            rw [z5] at h
            cases d5 with
            | dK kvs =>
              cases z2 : mb ρ ω with
              | stuck => rw [z2] at h; exact h.elim
              | err e => rw [z2] at h; exact h.elim
              | ok ds2 =>
                rw [z2] at h
                exact ⟨d, ds1, kvs, ds2, rfl, rfl, rfl, rfl, h⟩
            | _ => exact h.elim
    obtain ⟨d, ds1, kvs, ds2, e1, e2, e3, e4, hf, hc, g⟩ := key
    rw [e1]
    intro v H1 s1 r1
    refine ⟨F, ρ, ω, L, R.same s1, ?_⟩
    rw [e2, e3, e4]
    refine ⟨hf, by rw [List.length_cons] at hc; omega, fun vs1 a5 vs2 kv H' s hn h5 rk q1 q2 => ?_⟩
    refine g (v :: vs1) a5 vs2 kv H' (s1.trans s) (none_back s1 a5 hn) h5 rk ⟨v, vs1, rfl, ?_, q1⟩ q2
    exact Rep.mono ⟨fun b u f hb => ⟨f, fun e => by rw [e, hn] at hb; cases hb⟩, fun b u _ hb => s b u hb, fun b xs hb => s b _ hb, fun _ _ h => h⟩ _ _ r1⟩⟩
/-- name = (.., a new dict, ..); a suite that changes it; return name -/
@[simp] def sHold (i c : Nat) (ma : MA) (m5 : M) (mb : MA) (q : Qm) : T := fun _ ρ ω => match ma ρ ω, m5 ρ ω, mb ρ ω with
  | .ok ds1, .ok (.dK kvs), .ok ds2 => if i < ρ.length ∧ D.frees ds2 = true ∧ ds1.length = c ∧ ds1.length + ds2.length ≤ 100 then (match q (ρ.set i .no) ω kvs with
    | some kvs' => .rt (.tup (ds1 ++ .dK kvs' :: ds2)) ω
    | none => .stuck) else .stuck
  | _, _, _ => .stuck
theorem reps_app {W : Wd} {H : Hp} {S : Addr → Prop} {ob : Nat → Option Addr} : ∀ {ds1 : List D} {vs1 : List V} {d : D} {v : V} {ds2 : List D} {vs2 : List V}, Reps W H S ob ds1 vs1 → Rep W H S ob d v → Reps W H S ob ds2 vs2 → Reps W H S ob (ds1 ++ d :: ds2) (vs1 ++ v :: vs2)
  | [], _, _, _, _, _, h1, h2, h3 => by rw [show _ = [] from h1]; exact ⟨_, _, rfl, h2, h3⟩
  | a :: ds1, _, _, _, _, _, ⟨v, r, e, p, q⟩, h2, h3 => by
    subst e
    exact ⟨v, _, rfl, p, reps_app q h2 h3⟩
theorem s_hold {c : Nat} {k : Nat} (hN : X.N.Nodup) (hi : X.N[i]? = some x) (hx : Loc X.env.scope x) (hv : Vis X.env.scope x) (ha : DH X es c ma m5 mb) (hq : DQ X i c st q) (hd : (x == ("__debug__" : Str)) = false := by decide) (hcd : (x == ("__classdict__" : Str)) = false := by decide)
    (hs : swapsWith (.Tuple es k pt) (some (.Name x p)) pos.line X.env = pure false := by rfl) (hf : X.fn x = true ∨ X.env.scope.names.lookup x = some .local := by first | exact .inl rfl | exact .inr rfl | assumption) :
    DSs X Wx [.Assign [.Name x p] (.Tuple es k pt) pos, st, .Return (some (.Name x p2)) rp] (sHold i c ma m5 mb q) :=
  ⟨PSs.weak' (pss_cons (ps_set hN hi hx (pe_tup ha.pa) hs hf) (pss_cons hq.ps (pss_one (ps_ret (pe_var (i := i) hi hv hd hcd))))) fun G σ H ⟨F, ρ, ω, L, R, h⟩ => by
    have key : ∃ ds1 kvs ds2 kvs', ma ρ ω = .ok ds1 ∧ m5 ρ ω = .ok (.dK kvs) ∧ mb ρ ω = .ok ds2 ∧ (i < ρ.length ∧ D.frees ds2 = true ∧ ds1.length = c ∧ ds1.length + ds2.length ≤ 100) ∧ q (ρ.set i .no) ω kvs = some kvs' ∧ LeafS (wd X) Wx F G (.rt (.tup (ds1 ++ .dK kvs' :: ds2)) ω) := by
      unfold sHold at h
      cases z1 : ma ρ ω with
      | stuck => rw [z1] at h; exact h.elim
      | err e => rw [z1] at h; exact h.elim
      | ok ds1 =>
        rw [z1] at h
        cases z5 : m5 ρ ω with
        | stuck => rw [z5] at h; exact h.elim
        | err e => rw [z5] at h; exact h.elim
        | ok d5 =>
          rw [z5] at h
          cases d5 with
          | dK kvs =>
            cases z2 : mb ρ ω with
            | stuck => rw [z2] at h; exact h.elim
            | err e => rw [z2] at h; exact h.elim
            | ok ds2 =>
              rw [z2] at h
              replace h : LeafS (wd X) Wx F G (if i < ρ.length ∧ D.frees ds2 = true ∧ ds1.length = c ∧ ds1.length + ds2.length ≤ 100 then (match q (ρ.set i .no) ω kvs with
                | some kvs' => .rt (.tup (ds1 ++ .dK kvs' :: ds2)) ω
                | none => .stuck) else .stuck) := h
              split at h
              · rename_i hh
                cases zq : q (ρ.set i .no) ω kvs with
                | none => rw [zq] at h; exact h.elim
                | some kvs' => rw [zq] at h; exact ⟨ds1, kvs, ds2, kvs', rfl, rfl, rfl, hh, zq, h⟩
              · exact h.elim
          | _ => exact h.elim
    obtain ⟨ds1, kvs, ds2, kvs', e1, e2, e3, ⟨g1, g2, g3, g4⟩, eq, fin⟩ := key
    refine ⟨F, ρ, ω, L, R, ?_⟩
    rw [e1, e2, e3]
    refine ⟨g2, g3, fun vs1 a5 vs2 kv H1 s hn h5 rk r1 r2 => ⟨?_, fun z hz => ?_⟩⟩
    · rw [List.length_append, List.length_cons, r1.len, r2.len, sizeLine_eq]; omega
    have sm := same_upd (o := .tup (vs1 ++ .ref a5 :: vs2)) hz
    have kk : Kp H1 (upd H1 z (.tup (vs1 ++ .ref a5 :: vs2))) (Fn L [] a5) (Fn (lcS L i none) [] a5) (obs L) (obs (lcS L i none)) := ⟨fun b u f hb => ⟨(kp_none (Same.refl H1)).s b u f.1 hb, f.2⟩, fun b u _ hb => sm b u hb, fun b xs hb => sm b _ hb, fun m b hb => (kp_none (H := H1) (H' := H1) (Same.refl H1)).o m b hb⟩
    refine ⟨F, ρ.set i .no, ω, lcS L i none, ds1, kvs, ds2, ⟨H, z, a5, vs1, vs2, kv, R.junk g1 (.ref z), s.trans sm, hn, by rw [List.getElem?_set_self (by rw [R.len]; exact g1)], upd_same, by rw [r1.len]; exact g3, sm _ _ h5, RepK.mono kk _ _ rk, Reps.mono kk _ _ r1, Reps.mono kk _ _ r2⟩, kvs', eq, fun H' hh => ?_⟩
    obtain ⟨H0, t, b5, us1, us2, kw, f1, f2, f3, f4, f5, f6, f7, f8, f9, f10⟩ := hh.ex
    refine ⟨.ref t, f4, fin (.ref t) _ _ H' _ (f1.same f2) ⟨t, _, rfl, f5, ?_⟩⟩
    have kf : Kp H' H' (Fn (lcS L i none) [] b5) (FrA (lcS L i none)) (obs (lcS L i none)) (obs (lcS L i none)) := ⟨fun b u f _ => fr_frA f.1, fun _ _ _ h => h, fun _ _ h => h, fun _ _ h => h⟩
    exact reps_app (Reps.mono kf _ _ f9) ⟨b5, kw, rfl, fr_frA (f1.al.fr f3 []), .inl f7, RepK.mono kf _ _ f8⟩ (Reps.mono kf _ _ f10)⟩
end
/-! a call without arguments -/
section
variable {X : Cx} {Wx : WX} {pos p : Pos} {x : Str} {g : Fu} {j k : Nat}
theorem pe_callSD0 {CX : CXT} {f : Addr} {fd : FuncData} {ps : List Str} {sp : Sp} {ds : List Value} {dvs : List V} {E : L2.St → XK} (F : FnOk X.prog X.w X.K X.mg X.base CX k f fd ps sp) (hr : Room k X.A) (hg : Gl X x) (hm : X.mg x = some (.ref f)) (hk : PySem.W.keepIn X.K (.ref f) = true) (hb : Binds X.K fd ps ds) (hd : Vals dvs ds) (hx : ∀ σ, PassesAt CX X σ (E σ))
    (hdb : (x == ("__debug__" : Str)) = false := by decide) : PE X (.Call (.Name x p) [] [] pos) (tCallSD sp dvs E tNil) := by
  refine ⟨fun pins s σ H Q I h => ?_⟩
  refine wpAny_Call_Name_kw (ld_glob I hg hm ?_ hdb)
  exact PySem.W.callWith_K0 I.kIn hk (run_fnSD (us := []) F hr hb hd (hx σ) I .nil h)
theorem d_callF0 (c : Fc X.prog X.w X.K X.mg X.base j x 0 g) (hr : Room k X.A) (tk : Takes X Wx) (hg : Gl X x := by rfl) (hj : j ≤ k := by decide) (hdb : (x == ("__debug__" : Str)) = false := by decide) : DP X Wx [] (.Call (.Name x p) [] [] pos) (mCall 0 g aNil) := by
  obtain ⟨f, fd, ps, h1, h2, h3, h4, h5⟩ := c.ex
  refine ⟨PE.weak (pe_callSD0 (h5.mono hj) hr hg h1 h2 h3 .nil (passAt tk) hdb) fun σ H Q ⟨F0, ρ, ω, L, R, h⟩ => ?_⟩
  replace h : Leaf (wd X) Wx L [] σ H Q (ofRR ω (g ω.length [] ω)) := h
  refine ⟨rfl, ω.length, lcC L [], ω, [], R.into [] ω.length (fun n h1 h2 => absurd h1 (Nat.not_lt.mpr h2)), lcC_no, rfl, ?_⟩
  cases zg : g ω.length [] ω with
  | stuck => rw [zg] at h; exact h
  | er e ω' =>
    rw [zg] at h
    exact fun cls dd H2 L' R' ns x => h cls dd H2 (call_keep R R' (Nat.le_refl _)) x
  | ok d ω' =>
    rw [zg] at h
    replace h : Leaf (wd X) Wx L [] σ H Q (if ω'.length = ω.length then .ok d else .stuck) := h
    split at h
    · rename_i hl
      exact fun v H2 L' R' ns r => h v H2 (call_keep R R' (Nat.le_refl _)) (Rep.mono (call_back R R' (Nat.le_refl _) hl) d v r)
    · exact h.elim
end
end DL
noncomputable section
namespace DL
open PySem PySem.Spec PySem.Calls PyProof.Rows L2
/-! ### xs[::-1] -/
section
variable {X : Cx} {Wx : WX} {pos p p1 p2 p3 : Pos} {a b c e : Expr} {Ba Bb Bc B : List Nat} {ma mb mc m : M} {x y : Str} {i j k : Nat}
@[simp] def gRev : D → Res D
  | .lst xs => .ok (.lst xs.reverse)
  | _ => .stuck
theorem f_rev (ha : DU X Wx Ba a ma) : DF X Wx Ba (.Subscript a (.Slice none none (some (.UnaryOp .USub (.Constant (.int 1) k p1) p2)) p3) pos) (m1 ma gRev) :=
  ⟨PE.weak (pe_revL ha.pe) fun σ H Q ⟨F, ρ, ω, L, R, h⟩ => by
    refine part1f (B := Ba) (k := gRev) subid R h fun v H1 x s1 R1 p l => ?_
    cases x with
    | lst xs =>
      obtain ⟨a1, vs, e1, h1, r1⟩ := p
      refine ⟨a1, vs, e1, .of h1, fun z hz => ?_⟩
      exact l.ret (same_upd hz) hz ⟨vs.reverse, upd_same, (Reps.mono (kp_new hz) _ _ r1).rev⟩
    | _ => exact l.elim⟩
/-! ### t + u, of tuples, the empty one too -/
def gCatT : D → D → Res D
  | .tup xs, .tup ys => @ite _ (xs.length + ys.length ≤ 1000000) (Classical.propDecidable _) (.ok (.tup (xs ++ ys))) .stuck
  | _, _ => .stuck
theorem gCatT_ok {a b : List D} (h : a.length + b.length ≤ 1000000) : gCatT (.tup a) (.tup b) = .ok (.tup (a ++ b)) := @if_pos _ (Classical.propDecidable _) h _ _ _
theorem lf_catT {W : Wd} : LfOp W gCatT (rCatA W.K) := by
  intro Wx L B σ H Q x y v w al p q l
  unfold gCatT at l
  split at l
  · split at l
    · rename_i h
      obtain ⟨a, vs, e1, h1, r1⟩ := p
      obtain ⟨b, ws, e2, h2, r2⟩ := q
      refine ⟨a, b, vs, ws, e1, e2, .of h1, .of h2, by rw [sizeLine_eq, r1.len, r2.len]; omega, fun z => ?_, fun z z2 => ?_, fun z z2 t ht => ?_⟩
      · subst z
        exact l.ret ⟨b, ws, rfl, h2, Reps.app r1 r2⟩
      · subst z2
        refine l.ret ⟨a, vs, rfl, h1, ?_⟩
        have := Reps.app r1 r2
        rwa [List.append_nil] at this
      · have sm := same_upd (o := .tup (vs ++ ws)) ht
        exact l.ret' sm ⟨t, vs ++ ws, rfl, upd_same, Reps.app (r1.same sm) (r2.same sm)⟩
    · exact l.elim
  · exact l.elim
theorem d_catT (ha : DU X Wx Ba a ma) (hb : DU X Wx Bb b mb) : DP X Wx (Ba ++ Bb) (.BinOp a .Add b pos) (m2 ma mb gCatT) := d_bin op_catA lf_catT ha hb
/-! ### max of a list -/
def gMaxL : D → Res D
  | .lst xs => (match D.ints? xs with
    | some (n :: ns) => .ok (.int ((n :: ns).foldl (fun a b => if a < b then b else a) n))
    | _ => .stuck)
  | _ => .stuck
theorem foldmax_le : ∀ (l : List Int) (a : Int), a ≤ l.foldl (fun a b => if a < b then b else a) a ∧ (∀ y ∈ l, y ≤ l.foldl (fun a b => if a < b then b else a) a) ∧ (l.foldl (fun a b => if a < b then b else a) a = a ∨ l.foldl (fun a b => if a < b then b else a) a ∈ l)
  | [], a => ⟨Int.le_refl _, fun y h => by simp at h, .inl rfl⟩
  | b :: l, a => by
    obtain ⟨h1, h2, h3⟩ := foldmax_le l (if a < b then b else a)
    rw [List.foldl_cons]
    refine ⟨?_, fun y hy => ?_, ?_⟩
    · refine Int.le_trans ?_ h1
      split <;> omega
    · rcases List.mem_cons.mp hy with rfl | hy
      · refine Int.le_trans ?_ h1
        split <;> omega
      · exact h2 y hy
    · rcases h3 with h3 | h3
      · rw [h3]
        split
        · exact .inr List.mem_cons_self
        · exact .inl rfl
      · exact .inr (List.mem_cons_of_mem _ h3)
theorem lf_maxL {W : Wd} : LfC W gMaxL (rMax W.K) := by
  intro Wx L B σ H Q x v al q l
  unfold gMaxL at l
  split at l
  · split at l
    · rename_i n ns e
      obtain ⟨a, vs, e1, h, r⟩ := q
      rw [D.ints_some e] at r
      refine ⟨a, n :: ns, by rw [e1], .of (by rw [← Reps.ints r]; exact h), by simp, fun m hm hle => ?_⟩
      obtain ⟨h1, h2, h3⟩ := foldmax_le (n :: ns) n
      have em : m = (n :: ns).foldl (fun a b => if a < b then b else a) n := by
        have a1 := h2 m hm
        have a2 : (n :: ns).foldl (fun a b => if a < b then b else a) n ≤ m := by
          rcases h3 with h3 | h3
          · rw [h3]; exact hle n List.mem_cons_self
          · exact hle _ h3
        omega
      rw [em]
      exact l.ret rfl
    · exact l.elim
  · exact l.elim
theorem d_maxL (hc : X.calm = true) (hg : Gl X "max") (hm : X.mg "max" = none) (ha : DU X Wx Ba a ma) (he : starEach [a] X.env = (false, eval a X.env) :: starEach [] X.env := by rfl) : DP X Wx Ba (.Call (.Name "max" p) [a] [] pos) (m1 ma gMaxL) := d_callB1 (cr_max hc) lf_maxL hg hm (by decide +kernel) ha (he := he)
end
/-! ### {(): 0}: one pair, the key a tuple -/
section
variable {X : Cx} {Wx : WX} {pos p p1 p2 p3 : Pos} {a b c e : Expr} {Ba Bb Bc B : List Nat} {ma mb mc m : M} {x y : Str} {i j k : Nat}
def tDispT1 (tk tv : TE) : TE := fun σ H Q => ∀ p, H p = none → tk σ (upd H p (.dT [])) fun x H1 => tv σ H1 fun y H2 => H2 p = some (.dT []) ∧ ∃ (k : List Key) (b : Addr), x = .ref b ∧ H2 b = some (.tup (k.map kV)) ∧ Q (.ref p) (upd H2 p (.dT [(k, y)]))
theorem pe_dispT1 {tk tv : TE} (hu : X.A.units < cLine) (hk : PE X a tk) (hv : PE X b tv) : PE X (.Dict [some a] [b] pos) (tDispT1 tk tv) := by
  refine ⟨fun pins s σ H Q I q => ?_⟩
  have hn := I.hok.fresh (Nat.le_refl s.heap.objs.size)
  have I1 := I.laid (a := s.heap.objs.size) (o := .dT []) (h' := s.heap.push { cls := .type "dict", data := .dict #[] }) (t' := s.toks) (fun _ _ q => Heap.get?_push_of_some _ q) (Nat.le_refl _) (dt_empty s.heap I.big)
  rw [arm_eval_Dict, zip_pairTrees [some a] [b] X.env pos rfl rfl, dictDisplay_pairs (pairTrees [some a] [b] X.env pos) (by simp [pairTrees]) (by simp [pairTrees])]
  refine wpAny_bind (wpAny_standAt (wpAny_bind (wpAny_subDictH (knd := tupleKind (mixKind X.prog X.w)) hu (by simp [pairTrees]) ?_)))
  refine pairTrees_cons_walk (thn (hk.run pins _ σ _ _ I1 (q _ hn)) fun u s1 ⟨x, H1, I1', rx, q1⟩ => thn (hv.run pins s1 σ H1 _ I1' q1) fun w2 s2 ⟨y, H2, I2, ry, q2⟩ => pairTrees_nil_walk ?_)
  obtain ⟨e, k, b, ex, hb, q3⟩ := q2
  subst ex
  cases rx
  obtain ⟨z, hd, vs0, r0, dd⟩ := dt_of I2.hok e
  cases r0
  refine ⟨[(k, b, w2)], ⟨rfl, rfl, key_of I2.hok hb, trivial⟩, dd, fun h' tk' dd' hs => ?_⟩
  refine wpAny_pure ⟨.ref s.heap.objs.size, _, ?_, rfl, q3⟩
  obtain ⟨o, es, ep, hq, h2, h3, h4, _, h5⟩ := dd'
  refine d_write I2 (by rw [e]; exact True.intro) hs ⟨o, hq⟩ ⟨by rw [sizeLine_eq]; simp, hd, [(k, b, w2)], .cons ⟨rfl, ?_, ry⟩ .nil, o, es, ep, hq, h2, h3, h4, h5⟩
  rw [upd_ne (ne_of hb e (fun z => nomatch z))]
  exact hb
@[simp] def gDispT1 (x y : D) : Res D := match x with
  | .tup ks => (match D.flatKs ks with
    | some k => if D.free y = true then .ok (.dT [(k, y)]) else .stuck
    | none => .stuck)
  | _ => .stuck
@[simp] def mDispT1 (m1 m2 : M) : M := fun ρ ω => (m1 ρ ω).bind fun d1 => (m2 ρ ω).bind fun d2 => gDispT1 d1 d2
theorem f_dispT1 (hu : X.A.units + 64 < cLine) (h1 : DP X Wx Ba a ma) (h2 : DP X Wx Bb b mb) : DF X Wx [] (.Dict [some a] [b] pos) (mDispT1 ma mb) :=
  ⟨PE.weak (pe_dispT1 (by omega) h1.pe h2.pe) fun σ H Q ⟨F, ρ, ω, L, R, h⟩ => by
    intro z hz
    have s0 := same_upd (o := .dT []) hz
    unfold mDispT1 at h
    refine ⟨F, ρ, ω, L, R.same s0, ?_⟩
    cases z1 : ma ρ ω with
    | stuck => rw [z1] at h; exact h
    | err e => rw [z1] at h; exact fun c d H' s x => h c d H' (s0.trans s) x
    | ok d1 =>
      rw [z1] at h
      intro v1 H1 s1 r1
      refine ⟨F, ρ, ω, L, (R.same s0).same s1, ?_⟩
      cases z2 : mb ρ ω with
      | stuck => rw [z2] at h; exact h
      | err e => rw [z2] at h; exact fun c d H' s x => h c d H' ((s0.trans s1).trans s) x
      | ok d2 =>
        rw [z2] at h
        intro v2 H2 s2 r2
        replace h : LeafF (wd X) Wx L [] σ H Q (gDispT1 d1 d2) := h
        unfold gDispT1 at h
        split at h
        · rename_i ks
          split at h
          · rename_i k hk
            split at h
            · rename_i hf
              have e2 : H2 z = some (.dT []) := s2 _ _ (s1 _ _ upd_same)
              obtain ⟨b1, us, eb, hb, rb⟩ := r1
              refine ⟨e2, k, b1, eb, ?_, ?_⟩
              · rw [← flatKs_ok hk rb]
                exact s2 _ _ hb
              · have ht : ∀ a xs, H2 a = some (.tup xs) → upd H2 z (.dT [(k, v2)]) a = some (.tup xs) := fun a xs q => by
                  rw [upd_ne (fun e => by rw [e, e2] at q; cases q)]; exact q
                refine h z _ (fun b w hw => ?_) hz ⟨_, .of upd_same, v2, [], rfl, free_any hf ht r2, rfl⟩
                rw [upd_ne (fun e => by rw [e, hz] at hw; cases hw)]
                exact s2 _ _ (s1 _ _ (s0 _ _ hw))
            · exact h.elim
          · exact h.elim
        · exact h.elim⟩
end
end DL
noncomputable section
namespace DL
open PySem PySem.Spec PySem.Calls PyProof.Rows L2
/-! ### for k, v in d.items(), the keys tuples; d stands still -/
def ItiT (d : Addr) (o : Obj) (kvs : List (List Key × V)) : It :=
  ⟨fun i H => H d = some (.frz o (.dT kvs)) ∧ i < kvs.length, fun i H x H' => ∃ T q k v, kvs[i]? = some (k, v) ∧ x = .ref T ∧ H T = none ∧ H q = some (.tup (k.map kV)) ∧ H' = upd H T (.tup [.ref q, v]), fun i H => H d = some (.frz o (.dT kvs)) ∧ kvs.length ≤ i⟩
section
variable {X : Cx} {pins : List (Addr × Obj)} {σ : L2.St} {H : Hp} {s : Shared} {d : Addr} {o : Obj}
/-- the table behind the dict that stands still -/
structure Stood (H : Hp) (h : Heap) (d : Addr) (o : Obj) (kvs : List (List Key × V)) (es : Array DictEntry) (ep : Nat) : Prop where
  no : (d == sysModules) = false
  raw : DT.Raw h d es ep
  dat : o.data = .dict es ep
  nd : o.dict = none
  sz : es.size = kvs.length
  ent : ∀ (i : Nat) (hi : i < es.size), ∃ (k : List Key) (v : V) (q : Addr), kvs[i]? = some (k, v) ∧ es[i].key = .ref q ∧ H q = some (.tup (k.map kV)) ∧ RelV v es[i].val
theorem stood {kvs : List (List Key × V)} (I : Inv X pins σ H s) (frozen : H d = some (.frz o (.dT kvs))) : ∃ es ep, Stood H s.heap d o kvs es ep := by
  obtain ⟨there, _, nosys, rows, pairs, o2, es, ep, there2, plain, dat, list, _⟩ := I.hok d _ frozen
  have same : o2 = o := Option.some.inj (there2.symm.trans there)
  subst same
  have n : es.size = kvs.length := (size_of_entries list).trans (Paired.length pairs).symm
  refine ⟨es, ep, nosys, ⟨_, there, plain, dat⟩, dat, plain.2.1, n, fun i hi => ?_⟩
  have hk : i < kvs.length := by omega
  obtain ⟨row, at_, e1, tup, val⟩ := paired_get (a := (kvs[i].1, kvs[i].2)) pairs (List.getElem?_eq_getElem hk)
  have entry := entry_at list i
  rw [at_, Array.getElem?_eq_getElem hi] at entry
  have entry := Option.some.inj entry
  exact ⟨_, _, row.2.1, List.getElem?_eq_getElem hk, by rw [entry]; rfl, tup, by rw [entry]; exact val⟩
/-- at the i-th pair -/
def Onit (it d : Addr) (n ep : Nat) (i : Nat) (h : Heap) : Prop := ∃ oldk oldv, IsItemIter h it d i n ep oldk oldv
theorem Onit.lt {it n ep i : Nat} {h : Heap} (x : Onit it d n ep i h) : it < h.objs.size := by
  obtain ⟨_, _, y⟩ := x
  exact Heap.lt_size y
theorem only_it {it b : Addr} (h : b ∈ [it]) : b = it := List.mem_singleton.mp h
theorem turn_itemsT {P : Program} {w : World} {K : PySem.W.Frag} {es : Array DictEntry} {ep : Nat} {kvs : List (List Key × V)} {elts : List Expr} {kk : Nat} {tpos : Pos} (it : Addr) (dat : o.data = .dict es ep) :
    Turn P w K (.Tuple elts kk tpos) (ItiT d o kvs) [it] it (Onit it d kvs.length ep) where
  mem := List.mem_singleton.mpr rfl
  obj := fun i h on b hb => by
    cases only_it hb
    obtain ⟨_, _, y⟩ := on
    exact ⟨_, y, fun v q => nomatch q⟩
  keep := fun i h h' ⟨k1, v1, y⟩ kept => ⟨k1, v1, kept it (List.mem_singleton.mpr rfl) _ y⟩
  item := by
    rintro X rfl rfl rfl calm i pins s σ H E I fp ⟨k1, v1, y⟩ ⟨frozen, hi⟩
    obtain ⟨es2, ep2, S⟩ := stood I frozen
    obtain ⟨ees, eep⟩ := dict_ep dat S.dat
    subst ees eep
    rw [← S.sz] at y hi
    obtain ⟨k, v, q, at_, key, tup, val⟩ := S.ent i hi
    have low : s.heap.objs.size ≠ it := fun e => Nat.lt_irrefl _ (e ▸ Heap.lt_size y)
    refine DT.nextI y S.raw hi fun h1 out made grown kept => ⟨_, rfl, wpAny_letOwnedTupleGo_items (s := { s with heap := h1 }) out fun h2 back but => ?_⟩
    have pair : h2.get? s.heap.objs.size = some { cls := .type "tuple", data := .seq #[es2[i].key, es2[i].val] } := by rw [but.2 _ low]; exact made
    have fresh := I.hok.fresh (Nat.le_refl s.heap.objs.size)
    refine ⟨.ref s.heap.objs.size, upd H s.heap.objs.size (.tup [.ref q, v]), I.turnedNew (t' := s.toks) (ch := [it]) (fun b ob hb e => ?_) fp (Nat.le_refl _) ⟨?_, [es2[i].key, es2[i].val], ?_, ?_⟩, rfl,
      ⟨_, q, k, v, at_, rfl, fresh, tup, rfl⟩, ⟨es2[i].key, es2[i].val, S.sz ▸ back⟩, fun b hb => ?_⟩
    · have ne : b ≠ it := fun e => hb (List.mem_singleton.mpr e)
      rw [but.2 b ne]
      exact kept b ob ne e
    · rw [sizeLine_eq]
      show 2 ≤ 16777216
      decide
    · exact .cons (show RelV (.ref q) es2[i].key from key) (.cons val .nil)
    · exact ⟨_, pair, rfl, 0, rfl⟩
    · cases only_it hb
      rw [upd_ne (Ne.symm low)]
      exact (fp it (List.mem_singleton.mpr rfl)).1
  done := by
    rintro X rfl rfl rfl calm i pins s σ H E I fp ⟨k1, v1, y⟩ ⟨frozen, hi⟩
    obtain ⟨es2, ep2, S⟩ := stood I frozen
    obtain ⟨ees, eep⟩ := dict_ep dat S.dat
    subst ees eep
    rw [← S.sz] at y hi
    obtain ⟨a0, a1, _, a3, a4, a5⟩ := fp it (List.mem_singleton.mpr rfl)
    exact DT.endI (I.ok.hd calm) y S.raw hi fun h1 but => ⟨rfl, I.turned (t' := s.toks) (fun b ob ne e => but b ob ne e) a0 a1 a3 a4 a5⟩
  self := fun _ _ _ _ _ ⟨_, _, y⟩ h => PySem.W.kcp_self y h
end
def iItemsT (td : TE) : TI := fun σ H R => td σ H fun x H1 => ∃ d o kvs, x = .ref d ∧ H1 d = some (.frz o (.dT kvs)) ∧ R (ItiT d o kvs) H1
theorem pi_itemsT {X : Cx} {e : Expr} {td : TE} {apos cpos tpos : Pos} {elts : List Expr} {kk : Nat} (he : PE X e td) (hbase : attributeBase e "items" X.env (eval e X.env) = eval e X.env := by rfl) (hline : (apos.endLine == cpos.line) = true := by rfl) :
    PI X (.Tuple elts kk tpos) (.Call (.Attribute e "items" apos) [] [] cpos) (iItemsT td) := ⟨fun pins s σ H R I want => by
  refine wpAny_Call_method (T := "dict") (id := "dict.items") hbase rfl hline F.plainAttrs_dict F.slot_dict_items F.type_dict_items (thn (he.run pins s σ H _ I want) ?_)
  rintro u s1 ⟨x, H1, I1, rx, d, o, kvs, rfl, frozen, want⟩
  cases rx
  obtain ⟨es, ep, S⟩ := stood I1 frozen
  have isd := S.raw.typeIs (s := s1)
  refine ⟨isd, fun b q => by cases q; obtain ⟨o2, e2, x2, _⟩ := S.raw; exact ⟨o2, e2, x2.2.1⟩, ?_⟩
  refine method_meetsIn (s := s1) F.slot_dict_items F.entry_dict_items rfl (PySem.evalArgs_none ⟨rfl, isd, F.args_dict_items_1 _, _, DT.meetsItems (es := es) (ep := ep) S.no, S.raw, ?_⟩)
  refine DT.iterI (d := d) (es := es) (ep := ep) ⟨_, Heap.get?_push_size _ rfl, rfl, rfl⟩ (S.raw.push _) ?_
  refine pi_one (tk := s1.toks) (I1.kept (t' := s1.toks) fun b ob q => Heap.get?_push_of_some _ q) _ (turn_itemsT _ S.dat) ⟨.none, .none, ?_⟩ want
  show Heap.get? _ _ = _
  rw [← S.sz, Heap.get?_push_size _ rfl]
  rfl⟩
/-- what comes out -/
def itemsD (kvs : List (List Key × D)) : List D := kvs.map fun kv => .tup [.tup (kv.1.map kD), kv.2]
theorem repT_at {W : Wd} {H : Hp} {S : Addr → Prop} {ob : Nat → Option Addr} : ∀ {ds : List (List Key × D)} {vs : List (List Key × V)} {i : Nat} {k : List Key} {v : V}, RepT W H S ob ds vs → vs[i]? = some (k, v) → ∃ d, ds[i]? = some (k, d) ∧ Rep W H S ob d v
  | [], _, i, k, v, h, e => by rw [show _ = [] from h] at e; simp at e
  | (x, d0) :: ds, _, i, k, v, h, e => by
    obtain ⟨w, r, rfl, p, q⟩ := h
    cases i with
    | zero =>
      have e' : (x, w) = (k, v) := by simpa using e
      cases e'
      exact ⟨d0, rfl, p⟩
    | succ i =>
      obtain ⟨d, e1, e2⟩ := repT_at q (i := i) (k := k) (v := v) (by simpa using e)
      exact ⟨d, by simpa using e1, e2⟩
theorem reps_keysL {W : Wd} {H : Hp} {S : Addr → Prop} {ob : Nat → Option Addr} : ∀ l : List Key, Reps W H S ob (l.map kD) (l.map kV)
  | [] => rfl
  | a :: l => by cases a <;> exact ⟨_, _, rfl, rfl, reps_keysL l⟩
theorem walks_itemsT {W : Wd} {d : Addr} {o : Obj} {kvs : List (List Key × D)} {vs : List (List Key × V)} : Walks W (ItiT d o vs) (itemsD kvs) (fun S ob H => S d ∧ H d = some (.frz o (.dT vs)) ∧ RepT W H S ob kvs vs) where
  go := fun S ob i H ⟨_, h, r⟩ hi => ⟨h, by rw [repT_len r]; simpa [itemsD] using hi⟩
  yld := fun S ob i H x H' ⟨_, h, r⟩ ⟨T, q, k, v, e1, e2, e3, e4, e5⟩ hi => by
    subst e5
    have sm := same_upd (o := .tup [.ref q, v]) e3
    obtain ⟨dv, g1, g2⟩ := repT_at r e1
    refine ⟨sm, .tup [.tup (k.map kD), dv], ?_, T, [.ref q, v], e2, upd_same, ⟨_, _, rfl, ⟨q, _, rfl, sm _ _ e4, reps_keysL k⟩, _, _, rfl, g2.same sm, rfl⟩⟩
    unfold itemsD
    rw [List.getElem?_map, g1]; rfl
  stop := fun S ob i H ⟨_, h, r⟩ hi => ⟨h, by rw [repT_len r]; simpa [itemsD] using hi⟩
  kp := fun S S' ob ob' H H' ⟨s, h, r⟩ k => ⟨k.s d _ s h, k.k d _ s h, RepT.mono k _ _ r⟩
section
variable {W : Wd} {F : Fm} {ρ ρ' : Env'} {ω ω' : Store} {L L' : Lc} {σ σ' : L2.St} {H H' : Hp} {d : Addr} {od : Obj} {u : HO}
/-- the walked dict stands still while own slots change -/
theorem Rel.frzS (R : Rel W F ρ ω L σ H) (hn : ω.length ≤ F.n0) (hd : H d = some u) (hu : dct u = true) (hs : ∀ i, L (.sl i) ≠ some d) : Rel W ⟨F.n0, L, upd H d (.frz od u)⟩ ρ ω L σ (upd H d (.frz od u)) := by
  have q := R.frz (od := od) hd hu hs
  refine ⟨q.inj, q.alive, Aft.refl, q.fgs, q.len, q.sl, fun n o e => ?_, q.dom⟩
  have hl : n < ω.length := (List.getElem?_eq_some_iff.mp e).1
  refine ObR.exw (ex := decide (ω.length ≤ n)) (fun h => ?_) (q.st n o e)
  exact absurd (of_decide_eq_true h) (by show ¬ F.n0 ≤ n; omega)
theorem Rel.thawS (R : Rel W F ρ ω L σ H) (hd : H d = some u) (hu : dct u = true) (hs : ∀ p, L p ≠ some d) (R' : Rel W ⟨F.n0, L, upd H d (.frz od u)⟩ ρ' ω' L' σ' H') (hω : ω'.length ≤ F.n0) : H' d = some (.frz od u) ∧ (∀ p, L' p ≠ some d) ∧ Rel W F ρ' ω' L' σ' (upd H' d u) := by
  have hd' : H' d = some (.frz od u) := R'.aft.keep d _ upd_same (fun p e _ => hs p e)
  have cu : isC u = true := by cases u <;> first | rfl | cases hu
  have no' : ∀ p, L' p ≠ some d := fun p e => by
    by_cases m : Mt F.n0 p
    · rcases R'.aft.new p d m e with ⟨q, _, eq⟩ | z
      · exact hs q eq
      · replace z : upd H d (.frz od u) d = none := z
        rw [upd_same] at z; cases z
    · exact hs p ((R'.aft.prot p m).symm.trans e)
  have kt : Kz H' (upd H' d u) := kz_thaw hd'
  refine ⟨hd', no', R'.inj, fun p a e => ?_, R.aft.trans ?_, R'.fgs, R'.len, fun i s e => ?_, fun n o e => ?_, R'.dom⟩
  · obtain ⟨v, h, c⟩ := R'.alive p a e
    have ne : a ≠ d := fun z => no' p (by rw [e, z])
    exact ⟨v, by rw [upd_ne ne]; exact h, c⟩
  · refine ⟨fun a v h hp => ?_, fun i a e => ?_, fun p a m e => ?_, R'.aft.prot, R'.aft.obk, fun a v h => ?_⟩
    · by_cases z : a = d
      · subst z
        rw [upd_same, ← h]; exact hd.symm
      · rw [upd_ne z]
        exact R'.aft.keep a v (show upd H d (.frz od u) a = some v by rw [upd_ne z]; exact h) hp
    · rcases R'.aft.newS i a e with q | z
      · exact .inl q
      · replace z : upd H d (.frz od u) a = none := z
        by_cases y : a = d
        · subst y; rw [upd_same] at z; cases z
        · rw [upd_ne y] at z; exact .inr z
    · rcases R'.aft.newM p a m e with q | z
      · exact .inl q
      · replace z : upd H d (.frz od u) a = none := z
        by_cases y : a = d
        · subst y; rw [upd_same] at z; cases z
        · rw [upd_ne y] at z; exact .inr z
    · by_cases z : a = d
      · subst z
        exact ⟨u, upd_same⟩
      · obtain ⟨w, q⟩ := R'.aft.there a v (show upd H d (.frz od u) a = some v by rw [upd_ne z]; exact h)
        exact ⟨w, by rw [upd_ne z]; exact q⟩
  · have q := R'.sl i s e
    cases s with
    | no => trivial
    | val x =>
      obtain ⟨v, e1, r⟩ := q
      exact ⟨v, e1, Rep.kz kt x v r⟩
    | own x =>
      obtain ⟨a, e1, l, r⟩ := q
      have ne : a ≠ d := fun z => no' (.sl i) (by rw [l, z])
      refine ⟨a, e1, l, ?_⟩
      cases x with
      | lst xs => obtain ⟨vs, h, q⟩ := r; exact ⟨vs, kt.l _ _ h, Reps.kz kt xs vs q⟩
      | dK xs => obtain ⟨vs, h, q⟩ := r; exact ⟨vs, .of (by rw [upd_ne ne]; exact h.1 rfl), RepK.kz kt xs vs q⟩
      | dT xs => obtain ⟨vs, h, q⟩ := r; exact ⟨vs, .of (by rw [upd_ne ne]; exact h.1 rfl), RepT.kz kt xs vs q⟩
      | _ => exact r.elim
  · have hl : n < ω'.length := (List.getElem?_eq_some_iff.mp e).1
    obtain ⟨p, C, dx, fs, e1, e2, e3, q⟩ := (R'.st n o e).at_
    rw [show decide (F.n0 ≤ n) = false from decide_eq_false (by omega)]
    exact ⟨p, C, dx, fs, e1, e2, kt.i _ _ _ _ e3, FsR.kz kt (FsR.exw (ex := decide (F.n0 ≤ n)) (ex' := false) (fun h => by cases h) q)⟩
end
section
variable {X : Cx} {Wx : WX} {pos p apos cpos tpos : Pos} {a b c e tg iter : Expr} {Ba Bb Bc B : List Nat} {ma mb mc m : M} {x y f : Str} {i j : Nat} {st : Stmt} {sts rest : List Stmt} {t : T} {ms : MA} {mt : D → Env' → Option Env'} {elts : List Expr} {kk : Nat}
theorem for_walk {G : Ends} {F : Fm} {ρ : Env'} {ω : Store} {L : Lc} {σ : L2.St} {H : Hp} {J : It} {xs : List D} {P : (Addr → Prop) → (Nat → Option Addr) → Hp → Prop} (R : Rel (wd X) F ρ ω L σ H) (p0 : P (Fr L []) (obs L) H) (w : Walks (wd X) J xs P)
    (h : LeafS (wd X) Wx F G (mFor mt t xs F.n0 ρ ω)) : ∃ W : Nat → Nat → L2.St → Hp → Prop, (∃ m, W 0 m σ H) ∧ ∀ i m σ H, W i m σ H →
  (J.stop i H ∧ G.nx σ H) ∨ (J.go i H ∧ ∃ N : L2.St → Hp → Prop, (∀ σ' H', N σ' H' → ∃ m', m' < m ∧ W (i + 1) m' σ' H') ∧ ∀ x H', J.yld i H x H' → tG (wd X) mt x σ H' fun σ2 H2 => tS (wd X) Wx t { G with nx := N, ct := N, bk := G.nx } σ2 H2) := by
  refine ⟨fun i k σ H => k = xs.length - i ∧ i ≤ xs.length ∧ ∃ ρ ω L, Rel (wd X) F ρ ω L σ H ∧ P (Fr L []) (obs L) H ∧ LeafS (wd X) Wx F G (mFor mt t (xs.drop i) F.n0 ρ ω), ⟨xs.length, by simp, Nat.zero_le _, _, _, _, R, p0, h⟩, ?_⟩
  rintro i k σ H2 ⟨rfl, hi, ρ, ω, L, R, p, h⟩
  by_cases hlt : i < xs.length
  · refine .inr ⟨w.go _ _ i H2 p hlt, fun σ' H' => ∃ ρ' ω' L', Rel (wd X) F ρ' ω' L' σ' H' ∧ P (Fr L' []) (obs L') H' ∧ LeafS (wd X) Wx F G (mFor mt t (xs.drop (i + 1)) F.n0 ρ' ω'),
      fun σ' H' q => ⟨xs.length - (i + 1), by omega, rfl, hlt, q⟩, fun v H' y => ?_⟩
    obtain ⟨sm, d, ed, rd⟩ := w.yld _ _ i H2 v H' p y hlt
    have ex : xs.drop i = d :: xs.drop (i + 1) := by
      rw [List.drop_eq_getElem_cons hlt]
      congr 1
      rw [List.getElem?_eq_getElem hlt] at ed
      exact Option.some.inj ed
    rw [ex] at h
    have R' := R.same sm
    have p' := w.kp _ _ _ _ _ _ p (Kp.same (S := Fr L []) (ob := obs L) sm)
    refine ⟨F.at L H', ρ, ω, L, d, R'.sub, rd, ?_⟩
    have h : LeafS (wd X) Wx F G (match mt d ρ with
      | none => .stuck
      | some ρ1 => match t F.n0 ρ1 ω with
        | .nx ρ' ω' => mFor mt t (xs.drop (i + 1)) F.n0 ρ' ω'
        | .ct ρ' ω' => mFor mt t (xs.drop (i + 1)) F.n0 ρ' ω'
        | .bk ρ' ω' => .nx ρ' ω'
        | q => q) := h
    cases zt : mt d ρ with
    | none => rw [zt] at h; exact h.elim
    | some ρ1 =>
      rw [zt] at h
      replace h : LeafS (wd X) Wx F G (match t F.n0 ρ1 ω with
        | .nx ρ' ω' => mFor mt t (xs.drop (i + 1)) F.n0 ρ' ω'
        | .ct ρ' ω' => mFor mt t (xs.drop (i + 1)) F.n0 ρ' ω'
        | .bk ρ' ω' => .nx ρ' ω'
        | q => q) := h
      intro σ2 L2 R2
      refine ⟨F.at L H', ρ1, ω, L2, R2, ?_⟩
      show LeafS (wd X) Wx (F.at L H') _ (t F.n0 ρ1 ω)
      cases zb : t F.n0 ρ1 ω with
      | stuck => rw [zb] at h; exact h
      | nx ρ' ω' =>
        rw [zb] at h
        exact fun σ3 H3 L3 R3 => ⟨ρ', ω', L3, R'.up R3, w.kp _ _ _ _ _ _ p' (R3.aft.kp R'.alive), h⟩
      | ct ρ' ω' =>
        rw [zb] at h
        exact fun σ3 H3 L3 R3 => ⟨ρ', ω', L3, R'.up R3, w.kp _ _ _ _ _ _ p' (R3.aft.kp R'.alive), h⟩
      | bk ρ' ω' =>
        rw [zb] at h
        exact fun σ3 H3 L3 R3 => h σ3 H3 L3 (R'.up R3)
      | rt d ω' =>
        rw [zb] at h
        exact fun v ρ3 σ3 H3 L3 R3 q => h v ρ3 σ3 H3 L3 (R'.up R3) q
      | er e ω' =>
        rw [zb] at h
        exact fun c d ρ3 σ3 H3 L3 R3 q => h c d ρ3 σ3 H3 L3 (R'.up R3) q
  · have e : i = xs.length := by omega
    subst e
    refine .inl ⟨w.stop _ _ _ H2 p (Nat.le_refl _), ?_⟩
    rw [List.drop_length] at h
    exact h σ H2 L R
/-- only the way through -/
@[simp] def onlyNx (n0 : Nat) : RS → RS
  | .nx ρ ω => if ω.length ≤ n0 then .nx ρ ω else .stuck
  | _ => .stuck
@[simp] def sForT (j : Nat) (mt : D → Env' → Option Env') (body : T) : T := fun n0 ρ ω => match ρ[j]? with
  | some (.val (.dT kvs)) => if ω.length ≤ n0 then onlyNx n0 (mFor mt body (itemsD kvs) n0 ρ ω) else .stuck
  | _ => .stuck
theorem PS.or {st : Stmt} {t t' : TS} (h : PS X st t) (h' : PS X st t') : PS X st (fun D σ H => t D σ H ∨ t' D σ H) := ⟨fun pins s σ H D I q => q.elim (h.run pins s σ H D I) (h'.run pins s σ H D I)⟩
theorem s_forT (j : Nat) (hp : PassesOwn (model X.prog X.w) X.A X.env X.xe) (hc : X.calm = true) (hg : DG X (.Tuple elts kk tpos) mt) (hb : DSs X Wx sts t)
    (hj : X.N[j]? = some y := by rfl) (hv : Vis X.env.scope y := by first | exact Or.inl rfl | exact Or.inr (Or.inl rfl) | exact Or.inr (Or.inr rfl)) (hd : (y == ("__debug__" : Str)) = false := by decide) (hcd : (y == ("__classdict__" : Str)) = false := by decide)
    (hbase : attributeBase (.Name y p) "items" X.env (eval (.Name y p) X.env) = eval (.Name y p) X.env := by rfl) (hline : (apos.endLine == cpos.line) = true := by rfl)
    (hs : ∀ x, foldedSetIterable (.Call (.Attribute (.Name y p) "items" apos) [] [] cpos) X.env x = pure x := by intro _; rfl) : DS X Wx (.For (.Tuple elts kk tpos) (.Call (.Attribute (.Name y p) "items" apos) [] [] cpos) sts [] pos) (sForT j mt t) := by
  have core := ps_for (pos := pos) hp hc (pi_itemsT (pe_var (i := j) hj hv hd hcd) hbase hline (elts := elts) (kk := kk) (tpos := tpos)) hg.pg hb.pss hs
  refine ⟨PS.weak (PS.or (ps_lock core) core) fun G σ H ⟨F, ρ, ω, L, R, h⟩ => ?_⟩
  unfold sForT at h
  cases ej : ρ[j]? with
  | none => rw [ej] at h; exact h.elim
  | some sl =>
    cases sl with
    | no => rw [ej] at h; exact h.elim
    | own d' => rw [ej] at h; exact h.elim
    | val dv =>
      rw [ej] at h
      cases dv with
      | dT kvs =>
        replace h : LeafS (wd X) Wx F G (if ω.length ≤ F.n0 then onlyNx F.n0 (mFor mt t (itemsD kvs) F.n0 ρ ω) else .stuck) := h
        split at h
        case isFalse => exact h.elim
        rename_i hn
        cases zr : mFor mt t (itemsD kvs) F.n0 ρ ω with
        | nx ρ' ω' =>
          rw [zr] at h
          unfold onlyNx at h
          dsimp only at h
          split at h
          case isFalse => exact h.elim
          rename_i hw
          obtain ⟨v, e1, a, vs, e2, fr, hr, rk⟩ := R.sl j _ ej
          subst e2
          have no : ∀ q, L q ≠ some a := fun q z => by
            obtain ⟨m, hm, _⟩ := fr q z
            cases hm
          rcases hr with hr | ⟨o, hr⟩
          · refine .inl ⟨a, .dT vs, hr, by first | trivial | rfl | exact True.intro, fun od => ?_⟩
            have R2 := R.frzS (od := od) hn hr rfl (fun i => no _)
            refine ⟨.ref a, slot_at e1, a, od, vs, rfl, upd_same, ?_⟩
            refine for_walk (Wx := Wx) R2 (P := fun S ob H => S a ∧ H a = some (.frz od (.dT vs)) ∧ RepT (wd X) H S ob kvs vs) ⟨fr, upd_same, RepT.kz (kz_frz hr rfl) _ _ rk⟩ walks_itemsT ?_
            show LeafS (wd X) Wx ⟨F.n0, L, upd H a (.frz od (.dT vs))⟩ _ (mFor mt t (itemsD kvs) F.n0 ρ ω)
            rw [zr]
            intro σ' H' L' R'
            obtain ⟨t1, t2, t3⟩ := R.thawS hr rfl no R' hw
            exact ⟨t1, h _ _ _ t3⟩
          · refine .inr ⟨.ref a, slot_at e1, a, o, vs, rfl, hr, ?_⟩
            refine for_walk (Wx := Wx) R (P := fun S ob H => S a ∧ H a = some (.frz o (.dT vs)) ∧ RepT (wd X) H S ob kvs vs) ⟨fr, hr, rk⟩ walks_itemsT ?_
            rw [zr]
            exact h
        | _ => rw [zr] at h; exact h.elim
      | _ => exact h.elim
/-! ### [.. for k in d ..], the keys tuples -/
@[simp] def mCompT (i : Nat) (md : M) (tt : Env' → Store → Res Bool) (me : M) : M := fun ρ ω => if i < ρ.length then (match md ρ ω with
  | .ok (.dT kvs) => if kvs.length ≤ 1000 then (compL i tt me ω (demote [] ρ) (kvs.map fun kv => .tup (kv.1.map kD))).bind fun ys => .ok (.lst ys) else .stuck
  | _ => .stuck) else .stuck
theorem repT_keys {W : Wd} {H : Hp} {S : Addr → Prop} {ob : Nat → Option Addr} : ∀ {ds : List (List Key × D)} {vs : List (List Key × V)}, RepT W H S ob ds vs → vs.map (·.1) = ds.map (·.1)
  | [], _, h => by rw [show _ = [] from h]; rfl
  | (k, d) :: ds, _, h => by
    obtain ⟨v, r, e, p, q⟩ := h
    rw [e, List.map_cons, List.map_cons, repT_keys q]
theorem f_lcT {elt : Expr} {me : M} {tt : Env' → Store → Res Bool} {ifs : List Expr} {scope : Scope} {Be : List Nat} (hc : X.calm = true) (hN : X.N.Nodup) (ok : BlkOk X.N X.env.scope scope [(x, i)])
    (hg : ∀ (s : Shared) (H : Hp) (C : Addr) (cl : List (Str × Addr)) (fp : List Addr), PG (X.blk s H scope (compEnvC scope cl C X.env) fp) tg (gName i))
    (ht : ∀ (s : Shared) (H : Hp) (C : Addr) (cl : List (Str × Addr)) (fp : List Addr), DTs (X.blk s H scope (compEnvC scope cl C X.env) fp) W0 ifs tt)
    (he : ∀ (s : Shared) (H : Hp) (C : Addr) (cl : List (Str × Addr)) (fp : List Addr), DP (X.blk s H scope (compEnvC scope cl C X.env) fp) W0 Be elt me)
    (hj : X.N[j]? = some y := by rfl) (hv : Vis X.env.scope y := by first | exact Or.inl rfl | exact Or.inr (Or.inl rfl) | exact Or.inr (Or.inr rfl)) (hd : (y == ("__debug__" : Str)) = false := by decide) (hcd : (y == ("__classdict__" : Str)) = false := by decide)
    (hs : ∀ x, foldedSetIterable (.Name y p) X.env x = pure x := by intro _; rfl) :
    DF X Wx (i :: ([] ++ Be)) (.ListComp elt [⟨tg, .Name y p, ifs, 0⟩] scope pos) (mCompT i (mVal j) tt me) :=
  ⟨PE.weak (PE.or (pe_lock (pe_lc hc hN (pi_keys (pe_var (i := j) hj hv hd hcd)) ok hg (fun s H C cl fp => (ht s H C cl fp).pts) (fun s H C cl fp => (he s H C cl fp).pe) hs)) (pe_lc hc hN (pi_keys (pe_var (i := j) hj hv hd hcd)) ok hg (fun s H C cl fp => (ht s H C cl fp).pts) (fun s H C cl fp => (he s H C cl fp).pe) hs)) fun σ H Q ⟨F, ρ, ω, L, R, h⟩ => by
    unfold mCompT at h
    split at h
    case isFalse => exact h.elim
    rename_i hl
    unfold mVal at h
    cases ej : ρ[j]? with
    | none => rw [ej] at h; exact h.elim
    | some s =>
      cases s with
      | no => rw [ej] at h; exact h.elim
      | own d => rw [ej] at h; exact h.elim
      | val dv =>
        rw [ej] at h
        cases dv with
        | dT kvs =>
          replace h : LeafF (wd X) Wx L (i :: ([] ++ Be)) σ H Q (if kvs.length ≤ 1000 then (compL i tt me ω (demote [] ρ) (kvs.map fun kv => .tup (kv.1.map kD))).bind fun ys => .ok (.lst ys) else .stuck) := h
          split at h
          case isFalse => exact h.elim
          rename_i hlen
          obtain ⟨v, e1, a, vs, e2, fr, hr, rk⟩ := R.sl j _ ej
          subst e2
          have no : ∀ q, L q ≠ some a := fun q z => by
            obtain ⟨m, hm, _⟩ := fr q z
            cases hm
          rcases hr with hr | ⟨o, hr⟩
          · refine .inl ⟨a, .dT vs, hr, by first | trivial | rfl | exact True.intro, fun od => ?_⟩
            refine ⟨.ref a, slot_at e1, a, od, rfl, .inr ⟨vs, upd_same, fun z hz => ?_⟩⟩
            have R2 := R.frz (od := od) hr rfl (fun i => no _)
            exact lc_readH (Bi := []) R2 hl (by rw [List.length_map]; exact hlen) (walks_keysT (repT_keys rk)) upd_same (leafF_thaw hr rfl (fun e => bind_ne compL_ne) h) z hz
          · exact .inr ⟨.ref a, slot_at e1, a, o, rfl, .inr ⟨vs, hr, fun z hz => lc_readH (Bi := []) R hl (by rw [List.length_map]; exact hlen) (walks_keysT (repT_keys rk)) hr h z hz⟩⟩
        | _ => exact h.elim⟩
end
end DL
noncomputable section
namespace Wk07
open PySem PySem.Spec PySem.Calls PyProof.Rows L2 DL
def top (i : Nat) : Stmt := PySem.Challenge.pw_shellround_k07_whole_as_many_pairs_as_ca.main.body.getD i (.Pass ⟨0, 0, 0, 0⟩)
def excs : List Str := ["BadKind", "BadRank", "NoGift"]
/-! _law_cell -/
abbrev s__law_cell : Stmt := (top 10)
abbrev N__law_cell : List Str := ["_law_script", "_law_k"]
def m__law_cell : T := (sq (sIf (b2 (mV 1) (m1 (mV 0) gLen) gLt) (sRet (m2 (mV 0) (mV 1) gIx)) sNx)
    (sRet (mC (.int 0))))
def fu__law_cell : Fu := fuOf 2 m__law_cell
theorem sc__law_cell : FnScope N__law_cell ["_law_script", "_law_k"] (defScope s__law_cell) := ⟨rfl, rfl, rfl, by decide +kernel, rfl, by decide +kernel, by decide +kernel⟩
theorem ok__law_cell {P : Program} {w : World} {K : PySem.W.Frag} {mg : Str → Option Value} {base : Heap} {f : Addr} {fd : FuncData} (F : FunD K "_law_cell" "_law_cell" (defArgs s__law_cell) (defBody s__law_cell) (defScope s__law_cell) [] [] f fd) (gm : mg "_law_cell" = some (.ref f)) (h_len : mg "len" = none) : Fc P w K mg base 1 "_law_cell" 2 fu__law_cell := by
  have sc := sc__law_cell
  exact fc_ok F sc gm (FunD.bindsN (ps := ["_law_script", "_law_k"]) F fun _ _ _ _ _ _ us hl => match us, hl with | [_, _], _ => rfl) rfl (fun cdv A outer s H E hr => (s_cons (s_if (t_lt (u_var 1) (DP.u (DL.d_len rfl h_len (u_var 0)))) (s_one (s_ret (d_ix hr.units (u_var 0) (u_var 1)))) s_nil)
      (s_one (s_ret d_int))))
/-! _law_draws -/
abbrev s__law_draws : Stmt := (top 11)
abbrev N__law_draws : List Str := ["_law_cell_here", "_law_parts", "_law_one", "_law_two", "_law_six", "_law_found", "_law_part"]
def m__law_draws : T := (sq (sIf (b2 (m1 (mV 0) gAbs) (m2 (mC (.int 10)) (mC (.int 18)) gPow) gLt) (sq (sSet 2 ((([] ++ []) ++ []) ++ []) (m2 (m2 (m2 (mV 0) (mC (.int 48271)) gMul) (mC (.int 11)) gAdd) (mC (.int 2147483647)) gMod))
    (sq (sSet 3 (((([] ++ []) ++ ([] ++ [])) ++ []) ++ []) (m2 (m2 (m2 (m2 (mV 2) (mV 2) gMul) (m2 (mC (.int 40692)) (mV 2) gMul) gAdd) (mV 0) gAdd) (mC (.int 2147483399)) gMod))
    (sq (sSet 4 ((([] ++ []) ++ []) ++ []) (m2 (m2 (m2 (mV 3) (mC (.int 16807)) gMul) (mV 2) gAdd) (mC (.int 1000000007)) gMod))
    (sSet 0 ([] ++ ([] ++ ([] ++ ([] ++ [])))) (m2 (mV 3) (m2 (mC (.int 2147483399)) (m2 (mV 4) (m2 (mC (.int 1000000007)) (mV 2) gMul) gAdd) gMul) gAdd))))) (sSet 0 ([] ++ ([] ++ [])) (m2 (m1 (mV 0) gAbs) (m2 (mC (.int 10)) (mC (.int 18)) gPow) gSub)))
    (sq (sSetO 5 [] (mLst aNil))
    (sq (sFor [1] (iLst (mV 1)) (gN 6) (sq (sApp 5 ([] ++ []) (m2 (mV 0) (mV 6) gMod))
    (sSet 0 ([] ++ []) (m2 (mV 0) (mV 6) gDiv))))
    (sRet (mV 5)))))
def fu__law_draws : Fu := fuOf 7 m__law_draws
theorem sc__law_draws : FnScope N__law_draws ["_law_cell_here", "_law_parts"] (defScope s__law_draws) := ⟨rfl, rfl, rfl, by decide +kernel, rfl, by decide +kernel, by decide +kernel⟩
theorem ok__law_draws {P : Program} {w : World} {K : PySem.W.Frag} {mg : Str → Option Value} {base : Heap} {f : Addr} {fd : FuncData} (F : FunD K "_law_draws" "_law_draws" (defArgs s__law_draws) (defBody s__law_draws) (defScope s__law_draws) [] [] f fd) (gm : mg "_law_draws" = some (.ref f)) (h_abs : mg "abs" = none) : Fc P w K mg base 1 "_law_draws" 2 fu__law_draws := by
  have sc := sc__law_draws
  exact fc_ok F sc gm (FunD.bindsN (ps := ["_law_cell_here", "_law_parts"]) F fun _ _ _ _ _ _ us hl => match us, hl with | [_, _], _ => rfl) rfl (fun cdv A outer s H E hr => (s_cons (s_if (t_lt (DP.u (DL.d_abs rfl h_abs (u_var 0))) (DP.u (d_pow (DP.u d_int) (DP.u d_int)))) (s_cons (s_set sc.nd rfl (by first | exact .inl rfl | exact .inr rfl) (d_mod (DP.u (d_add (DP.u (d_mul (u_var 0) (DP.u d_int))) (DP.u d_int))) (DP.u d_int)))
      (s_cons (s_set sc.nd rfl (by first | exact .inl rfl | exact .inr rfl) (d_mod (DP.u (d_add (DP.u (d_add (DP.u (d_mul (u_var 2) (u_var 2))) (DP.u (d_mul (DP.u d_int) (u_var 2))))) (u_var 0))) (DP.u d_int)))
      (s_cons (s_set sc.nd rfl (by first | exact .inl rfl | exact .inr rfl) (d_mod (DP.u (d_add (DP.u (d_mul (u_var 3) (DP.u d_int))) (u_var 2))) (DP.u d_int)))
      (s_one (s_set sc.nd rfl (by first | exact .inl rfl | exact .inr rfl) (d_add (u_var 3) (DP.u (d_mul (DP.u d_int) (DP.u (d_add (u_var 4) (DP.u (d_mul (DP.u d_int) (u_var 2))))))))))))) (s_one (s_set sc.nd rfl (by first | exact .inl rfl | exact .inr rfl) (d_sub (DP.u (DL.d_abs rfl h_abs (u_var 0))) (DP.u (d_pow (DP.u d_int) (DP.u d_int)))))))
      (s_cons (s_setO sc.nd rfl (by first | exact .inl rfl | exact .inr rfl) (f_lst a_nil))
      (s_cons (s_for hpB rfl (i_list (d_var 1)) (g_name sc.nd rfl (by first | exact .inl rfl | exact .inr rfl)) (s_cons (s_app 5 (d_mod (u_var 0) (u_var 6)))
      (s_one (s_set sc.nd rfl (by first | exact .inl rfl | exact .inr rfl) (d_fdiv (u_var 0) (u_var 6))))))
      (s_one (s_ret (d_var 5)))))))
/-! _law_same -/
abbrev s__law_same : Stmt := (top 12)
abbrev N__law_same : List Str := ["_law_found", "_law_due", "_law_k"]
def m__law_same (self : Fu) : T := (sq (sIf (b2 (mV 1) (mC .non) gIs) (sRet (m2 (mV 0) (mC .non) gIs)) sNx)
    (sq (sIf (bV (m1 (mV 1) (gIs2 "bool"))) (sRet (mAnd (m1 (mV 0) (gIs2 "bool")) (m2 (mV 0) (mV 1) gEq))) sNx)
    (sq (sIf (bV (m1 (mV 1) (gIs2 "int"))) (sRet (mAnd (m1 (mV 0) (gIs2 "int")) (mAnd (m1 (m1 (mV 0) (gIs2 "bool")) gNot) (m2 (mV 0) (mV 1) gEq)))) sNx)
    (sq (sIf (bV (m1 (mV 1) (gIs2 "str"))) (sRet (mAnd (m1 (mV 0) (gIs2 "str")) (m2 (mV 0) (mV 1) gEq))) sNx)
    (sq (sIf (bOr (b2 (m1 (mV 1) (gIs2 "list")) (m1 (mV 0) (gIs2 "list")) gNe) (b2 (m1 (mV 1) (gIs2 "tuple")) (m1 (mV 0) (gIs2 "tuple")) gNe)) (sRet (mC (.bl false))) sNx)
    (sq (sIf (b2 (m1 (mV 0) gLen) (m1 (mV 1) gLen) gNe) (sRet (mC (.bl false))) sNx)
    (sRet (m1 (mComp 2 [] (iRng (m1 (mV 1) gLen)) bTrue (mCall 2 self (aCons (m2 (mV 0) (mV 2) gIx) (aCons (m2 (mV 1) (mV 2) gIx) aNil)))) gAll))))))))
def fuR__law_same : Nat → Fu
  | 0 => fun _ _ _ => .stuck
  | k + 1 => fuOf 3 (m__law_same (fuR__law_same k))
theorem sc__law_same : FnScope N__law_same ["_law_found", "_law_due"] (defScope s__law_same) := ⟨rfl, rfl, rfl, by decide +kernel, rfl, by decide +kernel, by decide +kernel⟩
theorem ok__law_same {P : Program} {w : World} {K : PySem.W.Frag} {mg : Str → Option Value} {base : Heap} {f : Addr} {fd : FuncData} (F : FunD K "_law_same" "_law_same" (defArgs s__law_same) (defBody s__law_same) (defScope s__law_same) [] [] f fd) (gm : mg "_law_same" = some (.ref f)) (h_all : mg "all" = none) (h_bool : mg "bool" = none) (h_int : mg "int" = none) (h_isinstance : mg "isinstance" = none) (h_len : mg "len" = none) (h_list : mg "list" = none) (h_range : mg "range" = none) (h_str : mg "str" = none) (h_tuple : mg "tuple" = none) : ∀ k, Fc P w K mg base (1 + k) "_law_same" 2 (fuR__law_same k)
  | 0 => fc_stuck0 F gm (FunD.bindsN (ps := ["_law_found", "_law_due"]) F fun _ _ _ _ _ _ us hl => match us, hl with | [_, _], _ => rfl) rfl
  | k + 1 => by
    have c__law_same := ok__law_same (P := P) (w := w) (base := base) F gm h_all h_bool h_int h_isinstance h_len h_list h_range h_str h_tuple k
    have sc := sc__law_same
    exact fc_ok (k := 1 + k) F sc gm (FunD.bindsN (ps := ["_law_found", "_law_due"]) F fun _ _ _ _ _ _ us hl => match us, hl with | [_, _], _ => rfl) rfl (fun cdv A outer s H E hr => (s_cons (s_if (t_is (u_var 1) (DP.u d_non)) (s_one (s_ret (d_is (u_var 0) (DP.u d_non)))) s_nil)
      (s_cons (s_if (t_val (d_isi "bool" rfl h_isinstance rfl h_bool (u_var 1))) (s_one (s_ret (v_and (DP.u (d_isi "bool" rfl h_isinstance rfl h_bool (u_var 0))) (v_one (d_eq hr.units (u_var 0) (u_var 1)))))) s_nil)
      (s_cons (s_if (t_val (d_isi "int" rfl h_isinstance rfl h_int (u_var 1))) (s_one (s_ret (v_and (DP.u (d_isi "int" rfl h_isinstance rfl h_int (u_var 0))) (v_and (DP.u (v_not (DP.u (d_isi "bool" rfl h_isinstance rfl h_bool (u_var 0))))) (v_one (d_eq hr.units (u_var 0) (u_var 1))))))) s_nil)
      (s_cons (s_if (t_val (d_isi "str" rfl h_isinstance rfl h_str (u_var 1))) (s_one (s_ret (v_and (DP.u (d_isi "str" rfl h_isinstance rfl h_str (u_var 0))) (v_one (d_eq hr.units (u_var 0) (u_var 1)))))) s_nil)
      (s_cons (s_if (DW.db (w_or (t_ne hr.units (DP.u (d_isi "list" rfl h_isinstance rfl h_list (u_var 1))) (DP.u (d_isi "list" rfl h_isinstance rfl h_list (u_var 0)))) (w_or1 (t_ne hr.units (DP.u (d_isi "tuple" rfl h_isinstance rfl h_tuple (u_var 1))) (DP.u (d_isi "tuple" rfl h_isinstance rfl h_tuple (u_var 0))))))) (s_one (s_ret d_bl)) s_nil)
      (s_cons (s_if (t_ne hr.units (DP.u (DL.d_len rfl h_len (u_var 0))) (DP.u (DL.d_len rfl h_len (u_var 1)))) (s_one (s_ret d_bl)) s_nil)
      (s_one (s_ret (DL.d_all rfl rfl h_all (DP.u (DF.dp (f_lc (x := "_law_k") (i := 2) rfl sc.nd (i_range rfl h_range (DP.u (DL.d_len rfl h_len (u_var 1)))) (blkOk_by (N := N__law_same) (sc := defScope s__law_same) (by decide +kernel)) (fun _ _ _ _ _ => pg_name sc.nd rfl (.inl rfl) (.inr rfl)) (fun _ _ _ _ _ => ts_nil) (fun _ _ _ _ _ => (d_callF c__law_same hr takes0 (a_cons (d_ix hr.units (u_var 0) (u_var 2)) (a_cons (d_ix hr.units (u_var 1) (u_var 2)) a_nil)) rfl (by omega))))))))))))))))
/-! _law_rows -/
abbrev s__law_rows : Stmt := (top 13)
abbrev N__law_rows : List Str := ["_law_cells", "_law_kind", "_law_rows_here", "_law_cell_here", "_law_drawn", "_law_way", "_law_rank"]
def m__law_rows : T := (sq (sSetO 2 [] (mLst aNil))
    (sq (sFor [0] (iLst (mV 0)) (gN 3) (sq (sSet 4 ([3] ++ (([] ++ ([] ++ ([] ++ ([] ++ ([] ++ []))))) ++ [])) (mCall 2 fu__law_draws (aCons (mV 3) (aCons (mLst (aCons (mC (.int 7)) (aCons (mC (.int 5)) (aCons (mC (.int 4)) (aCons (mC (.int 9)) (aCons (mC (.int 1000003)) aNil)))))) aNil))))
    (sq (sSet 5 (([] ++ ([] ++ [])) ++ (([] ++ []) ++ [])) (m2 (mLst (aCons (mC (.str "necklace")) (aCons (mC (.str "armring")) aNil))) (m1 (m2 (m2 (mV 4) (mC (.int 0)) gIx) (mC (.int 3)) gGt) gInt1) gIx))
    (sq (sSet 6 ((([] ++ ([] ++ [])) ++ (([] ++ (([] ++ []) ++ [])) ++ (([] ++ ([] ++ [])) ++ ((([] ++ []) ++ ([] ++ [])) ++ [])))) ++ (([] ++ ([] ++ ([] ++ ([] ++ ([] ++ ([] ++ ([] ++ []))))))) ++ ([] ++ []))) (m2 (mLst (aCons (m2 (mC (.int 1)) (m2 (mV 4) (mC (.int 3)) gIx) gAdd) (aCons (m2 (mC (.int 1)) (m2 (m2 (mV 4) (mC (.int 3)) gIx) (mC (.int 3)) gMod) gAdd) (aCons (m2 (mC (.int 1)) (m2 (mV 4) (mC (.int 4)) gIx) gAdd) (aCons (m2 (m2 (mC (.int 10)) (mC (.int 40)) gPow) (m2 (mV 4) (mC (.int 3)) gIx) gAdd) aNil))))) (m2 (mLst (aCons (mC (.int 0)) (aCons (mC (.int 0)) (aCons (mC (.int 1)) (aCons (mC (.int 1)) (aCons (mC (.int 0)) (aCons (mC (.int 2)) (aCons (mC (.int 3)) aNil)))))))) (m2 (mV 1) (mC (.int 7)) gMod) gIx) gIx))
    (sApp 2 ([5] ++ ([6] ++ [])) (mTup (aCons (mV 5) (aCons (mV 6) aNil))))))))
    (sRet (mV 2))))
def fu__law_rows : Fu := fuOf 7 m__law_rows
theorem sc__law_rows : FnScope N__law_rows ["_law_cells", "_law_kind"] (defScope s__law_rows) := ⟨rfl, rfl, rfl, by decide +kernel, rfl, by decide +kernel, by decide +kernel⟩
theorem ok__law_rows {P : Program} {w : World} {K : PySem.W.Frag} {mg : Str → Option Value} {base : Heap} {f : Addr} {fd : FuncData} (F : FunD K "_law_rows" "_law_rows" (defArgs s__law_rows) (defBody s__law_rows) (defScope s__law_rows) [] [] f fd) (gm : mg "_law_rows" = some (.ref f)) (h_int : mg "int" = none) (c__law_draws : Fc P w K mg base 1 "_law_draws" 2 fu__law_draws) : Fc P w K mg base 2 "_law_rows" 2 fu__law_rows := by
  have sc := sc__law_rows
  exact fc_ok F sc gm (FunD.bindsN (ps := ["_law_cells", "_law_kind"]) F fun _ _ _ _ _ _ us hl => match us, hl with | [_, _], _ => rfl) rfl (fun cdv A outer s H E hr => (s_cons (s_setO sc.nd rfl (by first | exact .inl rfl | exact .inr rfl) (f_lst a_nil))
      (s_cons (s_for hpB rfl (i_list (d_var 0)) (g_name sc.nd rfl (by first | exact .inl rfl | exact .inr rfl)) (s_cons (s_set sc.nd rfl (by first | exact .inl rfl | exact .inr rfl) (d_callF c__law_draws hr tkB (a_cons (d_var 3) (a_cons (DF.dp (f_lst (a_cons d_int (a_cons d_int (a_cons d_int (a_cons d_int (a_cons d_int a_nil))))))) a_nil))))
      (s_cons (s_set sc.nd rfl (by first | exact .inl rfl | exact .inr rfl) (d_ix hr.units (DP.u (DF.dp (f_lst (a_cons d_str (a_cons d_str a_nil))))) (DP.u (DL.d_intc rfl h_int (DP.u (d_gt (DP.u (d_ix hr.units (u_var 4) (DP.u d_int))) (DP.u d_int)))))))
      (s_cons (s_set sc.nd rfl (by first | exact .inl rfl | exact .inr rfl) (d_ix hr.units (DP.u (DF.dp (f_lst (a_cons (d_add (DP.u d_int) (DP.u (d_ix hr.units (u_var 4) (DP.u d_int)))) (a_cons (d_add (DP.u d_int) (DP.u (d_mod (DP.u (d_ix hr.units (u_var 4) (DP.u d_int))) (DP.u d_int)))) (a_cons (d_add (DP.u d_int) (DP.u (d_ix hr.units (u_var 4) (DP.u d_int)))) (a_cons (d_add (DP.u (d_pow (DP.u d_int) (DP.u d_int))) (DP.u (d_ix hr.units (u_var 4) (DP.u d_int)))) a_nil))))))) (DP.u (d_ix hr.units (DP.u (DF.dp (f_lst (a_cons d_int (a_cons d_int (a_cons d_int (a_cons d_int (a_cons d_int (a_cons d_int (a_cons d_int a_nil)))))))))) (DP.u (d_mod (u_var 1) (DP.u d_int)))))))
      (s_one (s_app 2 (d_tup (a_cons (d_var 5) (a_cons (d_var 6) a_nil)))))))))
      (s_one (s_ret (d_var 2))))))
/-! _law_fits -/
abbrev s__law_fits : Stmt := (top 14)
abbrev N__law_fits : List Str := ["_law_rows_here", "_law_one", "_law_other", "_law_first", "_law_later"]
def m__law_fits : T := (sq (sSet 3 ([] ++ ([] ++ [])) (m2 (mV 0) (m2 (mV 1) (mV 2) gMin2) gIx))
    (sq (sSet 4 ([] ++ ([] ++ [])) (m2 (mV 0) (m2 (mV 1) (mV 2) gMax2) gIx))
    (sRet (mAnd (m2 (m2 (mV 3) (mC (.int 0)) gIx) (m2 (mV 4) (mC (.int 0)) gIx) gNe) (m2 (m2 (mV 4) (mC (.int 1)) gIx) (m2 (mV 3) (mC (.int 1)) gIx) gGe)))))
def fu__law_fits : Fu := fuOf 5 m__law_fits
theorem sc__law_fits : FnScope N__law_fits ["_law_rows_here", "_law_one", "_law_other"] (defScope s__law_fits) := ⟨rfl, rfl, rfl, by decide +kernel, rfl, by decide +kernel, by decide +kernel⟩
theorem ok__law_fits {P : Program} {w : World} {K : PySem.W.Frag} {mg : Str → Option Value} {base : Heap} {f : Addr} {fd : FuncData} (F : FunD K "_law_fits" "_law_fits" (defArgs s__law_fits) (defBody s__law_fits) (defScope s__law_fits) [] [] f fd) (gm : mg "_law_fits" = some (.ref f)) (h_max : mg "max" = none) (h_min : mg "min" = none) : Fc P w K mg base 1 "_law_fits" 3 fu__law_fits := by
  have sc := sc__law_fits
  exact fc_ok F sc gm (FunD.bindsN (ps := ["_law_rows_here", "_law_one", "_law_other"]) F fun _ _ _ _ _ _ us hl => match us, hl with | [_, _, _], _ => rfl) rfl (fun cdv A outer s H E hr => (s_cons (s_set sc.nd rfl (by first | exact .inl rfl | exact .inr rfl) (d_ix hr.units (u_var 0) (DP.u (d_min2 rfl rfl h_min (u_var 1) (u_var 2) rfl rfl rfl))))
      (s_cons (s_set sc.nd rfl (by first | exact .inl rfl | exact .inr rfl) (d_ix hr.units (u_var 0) (DP.u (d_max2 rfl rfl h_max (u_var 1) (u_var 2) rfl rfl rfl))))
      (s_one (s_ret (v_and (DP.u (d_ne hr.units (DP.u (d_ix hr.units (u_var 3) (DP.u d_int))) (DP.u (d_ix hr.units (u_var 4) (DP.u d_int))))) (v_one (d_ge (DP.u (d_ix hr.units (u_var 4) (DP.u d_int))) (DP.u (d_ix hr.units (u_var 3) (DP.u d_int)))))))))))
/-! _law_turned -/
abbrev s__law_turned : Stmt := (top 15)
abbrev N__law_turned : List Str := ["_law_mates", "_law_came", "_law_at", "_law_other", "_law_here", "_law_further"]
def m__law_turned : T := (sq (sSetO 0 [] (m1 (mV 0) gDict))
    (sq (sSet 4 ([] ++ []) (m2 (mV 1) (mV 3) gIx))
    (sq (mWh (b2 (mV 4) (mV 2) gNe) (sq (sSet 5 ([] ++ []) (m2 (mV 0) (mV 4) gIx))
    (sq (sPut 0 [4] (mV 3) (mV 4))
    (sq (sPut 0 [3] (mV 4) (mV 3))
    (sq (sSet 3 [5] (mV 5))
    (sSet 4 ([] ++ []) (m2 (mV 1) (mV 3) gIx)))))) 1000)
    (sq (sPut 0 [2] (mV 3) (mV 2))
    (sq (sPut 0 [3] (mV 2) (mV 3))
    (sRet (mV 0)))))))
def fu__law_turned : Fu := fuOf 6 m__law_turned
theorem sc__law_turned : FnScope N__law_turned ["_law_mates", "_law_came", "_law_at", "_law_other"] (defScope s__law_turned) := ⟨rfl, rfl, rfl, by decide +kernel, rfl, by decide +kernel, by decide +kernel⟩
theorem ok__law_turned {P : Program} {w : World} {K : PySem.W.Frag} {mg : Str → Option Value} {base : Heap} {f : Addr} {fd : FuncData} (F : FunD K "_law_turned" "_law_turned" (defArgs s__law_turned) (defBody s__law_turned) (defScope s__law_turned) [] [] f fd) (gm : mg "_law_turned" = some (.ref f)) (h_dict : mg "dict" = none) : Fc P w K mg base 1 "_law_turned" 4 fu__law_turned := by
  have sc := sc__law_turned
  exact fc_ok F sc gm (FunD.bindsN (ps := ["_law_mates", "_law_came", "_law_at", "_law_other"]) F fun _ _ _ _ _ _ us hl => match us, hl with | [_, _, _, _], _ => rfl) rfl (fun cdv A outer s H E hr => (s_cons (s_setO sc.nd rfl (by first | exact .inl rfl | exact .inr rfl) (DL.f_dict rfl h_dict (u_var 0)))
      (s_cons (s_set sc.nd rfl (by first | exact .inl rfl | exact .inr rfl) (d_ix hr.units (u_var 1) (u_var 3)))
      (s_cons (s_while 1000 hpB (t_ne hr.units (u_var 4) (u_var 2)) (s_cons (s_set sc.nd rfl (by first | exact .inl rfl | exact .inr rfl) (d_ix hr.units (u_var 0) (u_var 4)))
      (s_cons (s_put 0 hr.units (u_var 3) (d_var 4))
      (s_cons (s_put 0 hr.units (u_var 4) (d_var 3))
      (s_cons (s_set sc.nd rfl (by first | exact .inl rfl | exact .inr rfl) (d_var 5))
      (s_one (s_set sc.nd rfl (by first | exact .inl rfl | exact .inr rfl) (d_ix hr.units (u_var 1) (u_var 3)))))))))
      (s_cons (s_put 0 hr.units (u_var 3) (d_var 2))
      (s_cons (s_put 0 hr.units (u_var 2) (d_var 3))
      (s_one (s_ret (d_var 0)))))))))
/-! _law_led -/
abbrev s__law_led : Stmt := (top 16)
abbrev N__law_led : List Str := ["_law_rows_here", "_law_mates", "_law_at", "_law_came", "_law_row", "_law_k", "_law_other"]
def m__law_led : T := (sq (sSetO 3 [] (mC (.dK [])))
    (sq (sSetO 4 ([2] ++ []) (mLst (aCons (mV 2) aNil)))
    (sq (sSet 5 [] (mC (.int 0)))
    (sq (mWh (b2 (mV 5) (m1 (mV 4) gLen) gLt) (sq (sFor [] (iRng (m1 (mV 0) gLen)) (gN 6) (sIf (bAnd (b2 (mV 6) (mV 3) gNotIn) (bV (mCall 3 fu__law_fits (aCons (mV 0) (aCons (m2 (mV 4) (mV 5) gIx) (aCons (mV 6) aNil)))))) (sq (sPut 3 ([] ++ []) (mV 6) (m2 (mV 4) (mV 5) gIx))
    (sq (sIf (b2 (mV 6) (mV 1) gNotIn) (sRet (mCall 4 fu__law_turned (aCons (mV 1) (aCons (mV 3) (aCons (mV 2) (aCons (mV 6) aNil)))))) sNx)
    (sApp 4 ([] ++ []) (m2 (mV 1) (mV 6) gIx)))) sNx))
    (sAugI 5 (mC (.int 1)))) 1000)
    (sRet (mV 1))))))
def fu__law_led : Fu := fuOf 7 m__law_led
theorem sc__law_led : FnScope N__law_led ["_law_rows_here", "_law_mates", "_law_at"] (defScope s__law_led) := ⟨rfl, rfl, rfl, by decide +kernel, rfl, by decide +kernel, by decide +kernel⟩
theorem ok__law_led {P : Program} {w : World} {K : PySem.W.Frag} {mg : Str → Option Value} {base : Heap} {f : Addr} {fd : FuncData} (F : FunD K "_law_led" "_law_led" (defArgs s__law_led) (defBody s__law_led) (defScope s__law_led) [] [] f fd) (gm : mg "_law_led" = some (.ref f)) (h_len : mg "len" = none) (h_range : mg "range" = none) (c__law_fits : Fc P w K mg base 1 "_law_fits" 3 fu__law_fits) (c__law_turned : Fc P w K mg base 1 "_law_turned" 4 fu__law_turned) : Fc P w K mg base 2 "_law_led" 3 fu__law_led := by
  have sc := sc__law_led
  exact fc_ok F sc gm (FunD.bindsN (ps := ["_law_rows_here", "_law_mates", "_law_at"]) F fun _ _ _ _ _ _ us hl => match us, hl with | [_, _, _], _ => rfl) rfl (fun cdv A outer s H E hr => (s_cons (s_setO sc.nd rfl (by first | exact .inl rfl | exact .inr rfl) f_dK)
      (s_cons (s_setO sc.nd rfl (by first | exact .inl rfl | exact .inr rfl) (f_lst (a_cons (d_var 2) a_nil)))
      (s_cons (s_set sc.nd rfl (by first | exact .inl rfl | exact .inr rfl) d_int)
      (s_cons (s_while 1000 hpB (t_lt (u_var 5) (DP.u (DL.d_len rfl h_len (u_var 4)))) (s_cons (s_for hpB rfl (i_range rfl h_range (DP.u (DL.d_len rfl h_len (u_var 0)))) (g_name sc.nd rfl (by first | exact .inl rfl | exact .inr rfl)) (s_one (s_if (DW.db (w_and (t_nin hr.units (u_var 6) (u_var 3)) (w_and1 (t_val (d_callF c__law_fits hr tkB (a_cons (d_var 0) (a_cons (d_ix hr.units (u_var 4) (u_var 5)) (a_cons (d_var 6) a_nil)))))))) (s_cons (s_put 3 hr.units (u_var 6) (d_ix hr.units (u_var 4) (u_var 5)))
      (s_cons (s_if (t_nin hr.units (u_var 6) (u_var 1)) (s_one (s_ret (d_callF c__law_turned hr tkB (a_cons (d_var 1) (a_cons (d_var 3) (a_cons (d_var 2) (a_cons (d_var 6) a_nil))))))) s_nil)
      (s_one (s_app 4 (d_ix hr.units (u_var 1) (u_var 6)))))) s_nil)))
      (s_one (s_augI sc.nd rfl (by first | exact .inl rfl | exact .inr rfl) d_int))))
      (s_one (s_ret (d_var 1))))))))
/-! _law_most -/
abbrev s__law_most : Stmt := (top 17)
abbrev N__law_most : List Str := ["_law_rows_here", "_law_best", "_law_at", "_law_fresh", "_law_free", "_law_many", "_law_kept", "_law_other", "_law_rest", "_law_one"]
def m__law_most : T := (sq (sSet 1 [] (mDispT1 (mTup aNil) (mC (.int 0))))
    (sq (sFor [] (iRng (m1 (mV 0) gLen)) (gN 2) (sq (sSetO 3 [] (mC (.dT [])))
    (sq (sForT 1 (gT [4, 5]) (sq (sSet 6 ([] ++ ([2] ++ [])) (m2 (mV 4) (mTup (aCons (mV 2) aNil)) gCatT))
    (sq (sPut 3 (([] ++ ([] ++ [])) ++ []) (mV 6) (m2 (mGet2 (mV 3) (mV 6) (mC (.int 0))) (mV 5) gMax2))
    (sFor [4] (iTupl (mV 4)) (gN 7) (sIf (bV (mCall 3 fu__law_fits (aCons (mV 0) (aCons (mV 7) (aCons (mV 2) aNil))))) (sq (sSet 8 (9 :: ([4] ++ [9])) (m1 (mComp 9 [4] (iTupl (mV 4)) (b2 (mV 9) (mV 7) gNe) (mV 9)) gTuple))
    (sPut 3 (([] ++ ([] ++ [])) ++ ([] ++ [])) (mV 8) (m2 (mGet2 (mV 3) (mV 8) (mC (.int 0))) (m2 (mV 5) (mC (.int 1)) gAdd) gMax2))) sNx)))))
    (sSet 1 [3] (mV 3)))))
    (sRet (m1 (mCompT 4 (mVal 1) bTrue (m2 (mV 1) (mV 4) gIx)) gMaxL))))
def fu__law_most : Fu := fuOf 10 m__law_most
theorem sc__law_most : FnScope N__law_most ["_law_rows_here"] (defScope s__law_most) := ⟨rfl, rfl, rfl, by decide +kernel, rfl, by decide +kernel, by decide +kernel⟩
theorem ok__law_most {P : Program} {w : World} {K : PySem.W.Frag} {mg : Str → Option Value} {base : Heap} {f : Addr} {fd : FuncData} (F : FunD K "_law_most" "_law_most" (defArgs s__law_most) (defBody s__law_most) (defScope s__law_most) [] [] f fd) (gm : mg "_law_most" = some (.ref f)) (h_len : mg "len" = none) (h_max : mg "max" = none) (h_range : mg "range" = none) (h_tuple : mg "tuple" = none) (c__law_fits : Fc P w K mg base 1 "_law_fits" 3 fu__law_fits) : Fc P w K mg base 2 "_law_most" 1 fu__law_most := by
  have sc := sc__law_most
  exact fc_ok F sc gm (FunD.bindsN (ps := ["_law_rows_here"]) F fun _ _ _ _ _ _ us hl => match us, hl with | [_], _ => rfl) rfl (fun cdv A outer s H E hr => (s_cons (s_set sc.nd rfl (by first | exact .inl rfl | exact .inr rfl) (DF.dp (f_dispT1 hr.units (d_tup a_nil) d_int)))
      (s_cons (s_for hpB rfl (i_range rfl h_range (DP.u (DL.d_len rfl h_len (u_var 0)))) (g_name sc.nd rfl (by first | exact .inl rfl | exact .inr rfl)) (s_cons (s_setO sc.nd rfl (by first | exact .inl rfl | exact .inr rfl) f_dT)
      (s_cons (s_forT 1 hpB rfl (g_tup rfl (gs_cons sc.nd rfl (by first | exact .inl rfl | exact .inr rfl) (gs_cons sc.nd rfl (by first | exact .inl rfl | exact .inr rfl) gs_nil))) (s_cons (s_set sc.nd rfl (by first | exact .inl rfl | exact .inr rfl) (d_catT (u_var 4) (DP.u (d_tup (a_cons (d_var 2) a_nil)))))
      (s_cons (s_put 3 hr.units (u_var 6) (d_max2 rfl rfl h_max (DP.u (d_get2 hr.units (u_var 3) (u_var 6) d_int)) (u_var 5) rfl rfl rfl))
      (s_one (s_for hpB rfl (i_tup (d_var 4)) (g_name sc.nd rfl (by first | exact .inl rfl | exact .inr rfl)) (s_one (s_if (t_val (d_callF c__law_fits hr tkB (a_cons (d_var 0) (a_cons (d_var 7) (a_cons (d_var 2) a_nil))))) (s_cons (s_set sc.nd rfl (by first | exact .inl rfl | exact .inr rfl) (DL.d_tuple rfl h_tuple (DP.u (DF.dp (f_lc (x := "_law_one") (i := 9) rfl sc.nd (i_tup (d_var 4)) (blkOk_by (N := N__law_most) (sc := defScope s__law_most) (by decide +kernel)) (fun _ _ _ _ _ => pg_name sc.nd rfl (.inl rfl) (.inr rfl)) (fun _ _ _ _ _ => (ts_one (t_ne hr.units (u_var 9) (u_var 7)))) (fun _ _ _ _ _ => (d_var 9)))))))
      (s_one (s_put 3 hr.units (u_var 8) (d_max2 rfl rfl h_max (DP.u (d_get2 hr.units (u_var 3) (u_var 8) d_int)) (DP.u (d_add (u_var 5) (DP.u d_int))) rfl rfl rfl)))) s_nil)))))))
      (s_one (s_set sc.nd rfl (by first | exact .inl rfl | exact .inr rfl) (d_var 3))))))
      (s_one (s_ret (d_maxL rfl rfl h_max (DP.u (DF.dp (f_lcT (x := "_law_free") (i := 4) (j := 1) rfl sc.nd (blkOk_by (N := N__law_most) (sc := defScope s__law_most) (by decide +kernel)) (fun _ _ _ _ _ => pg_name sc.nd rfl (.inl rfl) (.inr rfl)) (fun _ _ _ _ _ => ts_nil) (fun _ _ _ _ _ => (d_ix hr.units (u_var 1) (u_var 4))))))))))))
/-! Pairing_settled -/
abbrev s_Pairing_settled : Stmt := (inClass (top 8) 11)
abbrev N_Pairing_settled : List Str := ["self"]
def m_Pairing_settled : T := (sRet (m1 (mFld "Pairing" "mates" (mV 0)) gSorted))
def fu_Pairing_settled : Fu := fuOf 1 m_Pairing_settled
theorem sc_Pairing_settled : FnScope N_Pairing_settled ["self"] (defScope s_Pairing_settled) := ⟨rfl, rfl, rfl, by decide +kernel, rfl, by decide +kernel, by decide +kernel⟩
theorem ok_Pairing_settled {P : Program} {w : World} {K : PySem.W.Frag} {mg : Str → Option Value} {base : Heap} {f : Addr} {fd : FuncData} {C : Addr} (F : FunD K "settled" "Pairing.settled" (defArgs s_Pairing_settled) (defBody s_Pairing_settled) (defScope s_Pairing_settled) [] [] f fd) (gm : mg "Pairing" = some (.ref C)) (hcl : Cls K C) (hmt : Meth K C "settled" f) (h_sorted : mg "sorted" = none) (fl_Pairing_mates : FldK K mg "Pairing" "mates") : Mc P w K mg base 1 "Pairing" "settled" 1 fu_Pairing_settled := by
  have sc := sc_Pairing_settled
  exact mc_ok F sc gm hcl hmt (FunD.bindsN (ps := ["self"]) F fun _ _ _ _ _ _ us hl => match us, hl with | [_], _ => rfl) rfl (fun cdv A outer s H E hr => (s_one (s_ret (DF.dp (DL.f_sorted rfl rfl h_sorted (u_fld "Pairing" (FldK.x fl_Pairing_mates) (u_var 0)))))))
/-! Pairing_pairs -/
abbrev s_Pairing_pairs : Stmt := (inClass (top 8) 10)
abbrev N_Pairing_pairs : List Str := ["self", "at"]
def m_Pairing_pairs : T := (sRet (mComp 1 [] (iLst (m1 (mFld "Pairing" "mates" (mV 0)) gSorted)) (b2 (mV 1) (m2 (mFld "Pairing" "mates" (mV 0)) (mV 1) gIx) gLt) (mTup (aCons (mV 1) (aCons (m2 (mFld "Pairing" "mates" (mV 0)) (mV 1) gIx) aNil)))))
def fu_Pairing_pairs : Fu := fuOf 2 m_Pairing_pairs
theorem sc_Pairing_pairs : FnScope N_Pairing_pairs ["self"] (defScope s_Pairing_pairs) := ⟨rfl, rfl, rfl, by decide +kernel, rfl, by decide +kernel, by decide +kernel⟩
theorem ok_Pairing_pairs {P : Program} {w : World} {K : PySem.W.Frag} {mg : Str → Option Value} {base : Heap} {f : Addr} {fd : FuncData} {C : Addr} (F : FunD K "pairs" "Pairing.pairs" (defArgs s_Pairing_pairs) (defBody s_Pairing_pairs) (defScope s_Pairing_pairs) [] [] f fd) (gm : mg "Pairing" = some (.ref C)) (hcl : Cls K C) (hmt : Meth K C "pairs" f) (h_sorted : mg "sorted" = none) (fl_Pairing_mates : FldK K mg "Pairing" "mates") : Mc P w K mg base 1 "Pairing" "pairs" 1 fu_Pairing_pairs := by
  have sc := sc_Pairing_pairs
  exact mc_ok F sc gm hcl hmt (FunD.bindsN (ps := ["self"]) F fun _ _ _ _ _ _ us hl => match us, hl with | [_], _ => rfl) rfl (fun cdv A outer s H E hr => (s_one (s_ret (DF.dp (f_lc (x := "at") (i := 1) rfl sc.nd (i_list (DF.dp (DL.f_sorted rfl rfl h_sorted (u_fld "Pairing" (FldK.x fl_Pairing_mates) (u_var 0))))) (blkOk_by (N := N_Pairing_pairs) (sc := defScope s_Pairing_pairs) (by decide +kernel)) (fun _ _ _ _ _ => pg_name sc.nd rfl (.inl rfl) (.inr rfl)) (fun _ _ _ _ _ => (ts_one (t_lt (u_var 1) (DP.u (d_ix hr.units (u_fld "Pairing" (FldK.x fl_Pairing_mates) (u_var 0)) (u_var 1)))))) (fun _ _ _ _ _ => (d_tup (a_cons (d_var 1) (a_cons (d_ix hr.units (u_fld "Pairing" (FldK.x fl_Pairing_mates) (u_var 0)) (u_var 1)) a_nil)))))))))
/-! Pairing___init__ -/
abbrev s_Pairing___init__ : Stmt := (inClass (top 8) 0)
abbrev N_Pairing___init__ : List Str := ["self"]
def m_Pairing___init__ : T := (sq (sFldO "Pairing" "rows" [] (mV 0) (mLst aNil))
    (sFldO "Pairing" "mates" [] (mV 0) (mC (.dK []))))
def fu_Pairing___init__ : Fu := fuOf 1 m_Pairing___init__
theorem sc_Pairing___init__ : FnScope N_Pairing___init__ ["self"] (defScope s_Pairing___init__) := ⟨rfl, rfl, rfl, by decide +kernel, rfl, by decide +kernel, by decide +kernel⟩
theorem ok_Pairing___init__ {P : Program} {w : World} {K : PySem.W.Frag} {mg : Str → Option Value} {base : Heap} {f : Addr} {fd : FuncData} {C : Addr} (F : FunD K "__init__" "Pairing.__init__" (defArgs s_Pairing___init__) (defBody s_Pairing___init__) (defScope s_Pairing___init__) [] [] f fd) (gm : mg "Pairing" = some (.ref C)) (hmk : Mk K C f) (fl_Pairing_mates : FldK K mg "Pairing" "mates") (fl_Pairing_rows : FldK K mg "Pairing" "rows") : Kc P w K mg base 1 "Pairing" 1 fu_Pairing___init__ := by
  have sc := sc_Pairing___init__
  exact kc_ok F sc gm hmk (FunD.bindsN (ps := ["self"]) F fun _ _ _ _ _ _ us hl => match us, hl with | [_], _ => rfl) rfl (fun cdv A outer s H E hr => (s_cons (s_fldO (FldK.x fl_Pairing_rows) (u_var 0) (f_lst a_nil))
      (s_one (s_fldO (FldK.x fl_Pairing_mates) (u_var 0) f_dK))))
/-! Pairing_unsettled -/
abbrev s_Pairing_unsettled : Stmt := (inClass (top 8) 12)
abbrev N_Pairing_unsettled : List Str := ["self", "at"]
def m_Pairing_unsettled : T := (sRet (mComp 1 [] (iRng (m1 (mFld "Pairing" "rows" (mV 0)) gLen)) (b2 (mV 1) (mFld "Pairing" "mates" (mV 0)) gNotIn) (mV 1)))
def fu_Pairing_unsettled : Fu := fuOf 2 m_Pairing_unsettled
theorem sc_Pairing_unsettled : FnScope N_Pairing_unsettled ["self"] (defScope s_Pairing_unsettled) := ⟨rfl, rfl, rfl, by decide +kernel, rfl, by decide +kernel, by decide +kernel⟩
theorem ok_Pairing_unsettled {P : Program} {w : World} {K : PySem.W.Frag} {mg : Str → Option Value} {base : Heap} {f : Addr} {fd : FuncData} {C : Addr} (F : FunD K "unsettled" "Pairing.unsettled" (defArgs s_Pairing_unsettled) (defBody s_Pairing_unsettled) (defScope s_Pairing_unsettled) [] [] f fd) (gm : mg "Pairing" = some (.ref C)) (hcl : Cls K C) (hmt : Meth K C "unsettled" f) (h_len : mg "len" = none) (h_range : mg "range" = none) (fl_Pairing_mates : FldK K mg "Pairing" "mates") (fl_Pairing_rows : FldK K mg "Pairing" "rows") : Mc P w K mg base 1 "Pairing" "unsettled" 1 fu_Pairing_unsettled := by
  have sc := sc_Pairing_unsettled
  exact mc_ok F sc gm hcl hmt (FunD.bindsN (ps := ["self"]) F fun _ _ _ _ _ _ us hl => match us, hl with | [_], _ => rfl) rfl (fun cdv A outer s H E hr => (s_one (s_ret (DF.dp (f_lc (x := "at") (i := 1) rfl sc.nd (i_range rfl h_range (DP.u (DL.d_len rfl h_len (u_fld "Pairing" (FldK.x fl_Pairing_rows) (u_var 0))))) (blkOk_by (N := N_Pairing_unsettled) (sc := defScope s_Pairing_unsettled) (by decide +kernel)) (fun _ _ _ _ _ => pg_name sc.nd rfl (.inl rfl) (.inr rfl)) (fun _ _ _ _ _ => (ts_one (t_nin hr.units (u_var 1) (u_fld "Pairing" (FldK.x fl_Pairing_mates) (u_var 0))))) (fun _ _ _ _ _ => (d_var 1)))))))
/-! Pairing_look -/
abbrev s_Pairing_look : Stmt := (inClass (top 8) 2)
abbrev N_Pairing_look : List Str := ["self", "number"]
def m_Pairing_look : T := (sIf (bOr (b2 (mV 1) (mC (.int 0)) gLt) (b2 (mV 1) (m1 (mFld "Pairing" "rows" (mV 0)) gLen) gGe)) (fun _ _ ω => .er ⟨"NoGift", "no gift"⟩ ω) sNx)
def fu_Pairing_look : Fu := fuOf 2 m_Pairing_look
theorem sc_Pairing_look : FnScope N_Pairing_look ["self", "number"] (defScope s_Pairing_look) := ⟨rfl, rfl, rfl, by decide +kernel, rfl, by decide +kernel, by decide +kernel⟩
theorem ok_Pairing_look {P : Program} {w : World} {K : PySem.W.Frag} {mg : Str → Option Value} {base : Heap} {f : Addr} {fd : FuncData} {C : Addr} (F : FunD K "look" "Pairing.look" (defArgs s_Pairing_look) (defBody s_Pairing_look) (defScope s_Pairing_look) [] [] f fd) (gm : mg "Pairing" = some (.ref C)) (hcl : Cls K C) (hmt : Meth K C "look" f) (h_len : mg "len" = none) (fl_Pairing_rows : FldK K mg "Pairing" "rows") (x_NoGift : Xc P w K mg base "NoGift" "no gift") : Mc P w K mg base 4 "Pairing" "look" 2 fu_Pairing_look := by
  have sc := sc_Pairing_look
  exact mc_ok F sc gm hcl hmt (FunD.bindsN (ps := ["self", "number"]) F fun _ _ _ _ _ _ us hl => match us, hl with | [_, _], _ => rfl) rfl (fun cdv A outer s H E hr => (s_one (s_if (DW.db (w_or (t_lt (u_var 1) (DP.u d_int)) (w_or1 (t_ge (u_var 1) (DP.u (DL.d_len rfl h_len (u_fld "Pairing" (FldK.x fl_Pairing_rows) (u_var 0)))))))) (s_one (s_raiseC rfl tkB x_NoGift hr)) s_nil)))
/-! Pairing_fits -/
abbrev s_Pairing_fits : Stmt := (inClass (top 8) 3)
abbrev N_Pairing_fits : List Str := ["self", "one", "other", "first", "later"]
def m_Pairing_fits : T := (sq (sDrop (mMeth "Pairing" "look" 2 fu_Pairing_look (mV 0) (aCons (mV 1) aNil)))
    (sq (sDrop (mMeth "Pairing" "look" 2 fu_Pairing_look (mV 0) (aCons (mV 2) aNil)))
    (sq (sSet 3 ([] ++ ([] ++ [])) (m2 (mFld "Pairing" "rows" (mV 0)) (m2 (mV 1) (mV 2) gMin2) gIx))
    (sq (sSet 4 ([] ++ ([] ++ [])) (m2 (mFld "Pairing" "rows" (mV 0)) (m2 (mV 1) (mV 2) gMax2) gIx))
    (sRet (mAnd (m2 (m2 (mV 3) (mC (.int 0)) gIx) (m2 (mV 4) (mC (.int 0)) gIx) gNe) (m2 (m2 (mV 4) (mC (.int 1)) gIx) (m2 (mV 3) (mC (.int 1)) gIx) gGe)))))))
def fu_Pairing_fits : Fu := fuOf 5 m_Pairing_fits
theorem sc_Pairing_fits : FnScope N_Pairing_fits ["self", "one", "other"] (defScope s_Pairing_fits) := ⟨rfl, rfl, rfl, by decide +kernel, rfl, by decide +kernel, by decide +kernel⟩
theorem ok_Pairing_fits {P : Program} {w : World} {K : PySem.W.Frag} {mg : Str → Option Value} {base : Heap} {f : Addr} {fd : FuncData} {C : Addr} (F : FunD K "fits" "Pairing.fits" (defArgs s_Pairing_fits) (defBody s_Pairing_fits) (defScope s_Pairing_fits) [] [] f fd) (gm : mg "Pairing" = some (.ref C)) (hcl : Cls K C) (hmt : Meth K C "fits" f) (h_max : mg "max" = none) (h_min : mg "min" = none) (fl_Pairing_rows : FldK K mg "Pairing" "rows") (c_Pairing_look : Mc P w K mg base 4 "Pairing" "look" 2 fu_Pairing_look) : Mc P w K mg base 5 "Pairing" "fits" 3 fu_Pairing_fits := by
  have sc := sc_Pairing_fits
  exact mc_ok F sc gm hcl hmt (FunD.bindsN (ps := ["self", "one", "other"]) F fun _ _ _ _ _ _ us hl => match us, hl with | [_, _, _], _ => rfl) rfl (fun cdv A outer s H E hr => (s_cons (s_expr (d_meth c_Pairing_look hr tkB (u_var 0) (a_cons (d_var 1) a_nil) (by omega)))
      (s_cons (s_expr (d_meth c_Pairing_look hr tkB (u_var 0) (a_cons (d_var 2) a_nil) (by omega)))
      (s_cons (s_set sc.nd rfl (by first | exact .inl rfl | exact .inr rfl) (d_ix hr.units (u_fld "Pairing" (FldK.x fl_Pairing_rows) (u_var 0)) (DP.u (d_min2 rfl rfl h_min (u_var 1) (u_var 2) rfl rfl rfl))))
      (s_cons (s_set sc.nd rfl (by first | exact .inl rfl | exact .inr rfl) (d_ix hr.units (u_fld "Pairing" (FldK.x fl_Pairing_rows) (u_var 0)) (DP.u (d_max2 rfl rfl h_max (u_var 1) (u_var 2) rfl rfl rfl))))
      (s_one (s_ret (v_and (DP.u (d_ne hr.units (DP.u (d_ix hr.units (u_var 3) (DP.u d_int))) (DP.u (d_ix hr.units (u_var 4) (DP.u d_int))))) (v_one (d_ge (DP.u (d_ix hr.units (u_var 4) (DP.u d_int))) (DP.u (d_ix hr.units (u_var 3) (DP.u d_int)))))))))))))
/-! Pairing_near -/
abbrev s_Pairing_near : Stmt := (inClass (top 8) 4)
abbrev N_Pairing_near : List Str := ["self", "at", "other"]
def m_Pairing_near : T := (sRet (mComp 2 [] (iRng (m1 (mFld "Pairing" "rows" (mV 0)) gLen)) (bV (mMeth "Pairing" "fits" 3 fu_Pairing_fits (mV 0) (aCons (mV 1) (aCons (mV 2) aNil)))) (mV 2)))
def fu_Pairing_near : Fu := fuOf 3 m_Pairing_near
theorem sc_Pairing_near : FnScope N_Pairing_near ["self", "at"] (defScope s_Pairing_near) := ⟨rfl, rfl, rfl, by decide +kernel, rfl, by decide +kernel, by decide +kernel⟩
theorem ok_Pairing_near {P : Program} {w : World} {K : PySem.W.Frag} {mg : Str → Option Value} {base : Heap} {f : Addr} {fd : FuncData} {C : Addr} (F : FunD K "near" "Pairing.near" (defArgs s_Pairing_near) (defBody s_Pairing_near) (defScope s_Pairing_near) [] [] f fd) (gm : mg "Pairing" = some (.ref C)) (hcl : Cls K C) (hmt : Meth K C "near" f) (h_len : mg "len" = none) (h_range : mg "range" = none) (fl_Pairing_rows : FldK K mg "Pairing" "rows") (c_Pairing_fits : Mc P w K mg base 5 "Pairing" "fits" 3 fu_Pairing_fits) : Mc P w K mg base 6 "Pairing" "near" 2 fu_Pairing_near := by
  have sc := sc_Pairing_near
  exact mc_ok F sc gm hcl hmt (FunD.bindsN (ps := ["self", "at"]) F fun _ _ _ _ _ _ us hl => match us, hl with | [_, _], _ => rfl) rfl (fun cdv A outer s H E hr => (s_one (s_ret (DF.dp (f_lc (x := "other") (i := 2) rfl sc.nd (i_range rfl h_range (DP.u (DL.d_len rfl h_len (u_fld "Pairing" (FldK.x fl_Pairing_rows) (u_var 0))))) (blkOk_by (N := N_Pairing_near) (sc := defScope s_Pairing_near) (by decide +kernel)) (fun _ _ _ _ _ => pg_name sc.nd rfl (.inl rfl) (.inr rfl)) (fun _ _ _ _ _ => (ts_one (t_val (d_meth c_Pairing_fits hr takes0 (u_var 0) (a_cons (d_var 1) (a_cons (d_var 2) a_nil)) (by omega))))) (fun _ _ _ _ _ => (d_var 2)))))))
/-! Pairing_spread -/
abbrev s_Pairing_spread : Stmt := (inClass (top 8) 5)
abbrev N_Pairing_spread : List Str := ["self", "begins", "came", "row", "at", "other"]
def m_Pairing_spread : T := (sq (sSetO 2 [] (mC (.dK [])))
    (sq (sSetO 3 [] (m1 (mV 1) gList))
    (sq (sSet 4 [] (mC (.int 0)))
    (sq (mWh (b2 (mV 4) (m1 (mV 3) gLen) gLt) (sq (sFor ([] ++ (([] ++ []) ++ [])) (iLst (mMeth "Pairing" "near" 2 fu_Pairing_near (mV 0) (aCons (m2 (mV 3) (mV 4) gIx) aNil))) (gN 5) (sIf (b2 (mV 5) (mV 2) gNotIn) (sq (sPut 2 ([] ++ []) (mV 5) (m2 (mV 3) (mV 4) gIx))
    (sIf (b2 (mV 5) (mFld "Pairing" "mates" (mV 0)) gIn) (sApp 3 ([] ++ []) (m2 (mFld "Pairing" "mates" (mV 0)) (mV 5) gIx)) sNx)) sNx))
    (sAugI 4 (mC (.int 1)))) 200)
    (sRet (mV 2))))))
def fu_Pairing_spread : Fu := fuOf 6 m_Pairing_spread
theorem sc_Pairing_spread : FnScope N_Pairing_spread ["self", "begins"] (defScope s_Pairing_spread) := ⟨rfl, rfl, rfl, by decide +kernel, rfl, by decide +kernel, by decide +kernel⟩
theorem ok_Pairing_spread {P : Program} {w : World} {K : PySem.W.Frag} {mg : Str → Option Value} {base : Heap} {f : Addr} {fd : FuncData} {C : Addr} (F : FunD K "spread" "Pairing.spread" (defArgs s_Pairing_spread) (defBody s_Pairing_spread) (defScope s_Pairing_spread) [] [] f fd) (gm : mg "Pairing" = some (.ref C)) (hcl : Cls K C) (hmt : Meth K C "spread" f) (h_len : mg "len" = none) (h_list : mg "list" = none) (fl_Pairing_mates : FldK K mg "Pairing" "mates") (c_Pairing_near : Mc P w K mg base 6 "Pairing" "near" 2 fu_Pairing_near) : Mc P w K mg base 7 "Pairing" "spread" 2 fu_Pairing_spread := by
  have sc := sc_Pairing_spread
  exact mc_ok F sc gm hcl hmt (FunD.bindsN (ps := ["self", "begins"]) F fun _ _ _ _ _ _ us hl => match us, hl with | [_, _], _ => rfl) rfl (fun cdv A outer s H E hr => (s_cons (s_setO sc.nd rfl (by first | exact .inl rfl | exact .inr rfl) f_dK)
      (s_cons (s_setO sc.nd rfl (by first | exact .inl rfl | exact .inr rfl) (DL.f_list rfl rfl h_list (u_var 1)))
      (s_cons (s_set sc.nd rfl (by first | exact .inl rfl | exact .inr rfl) d_int)
      (s_cons (s_while 200 hpB (t_lt (u_var 4) (DP.u (DL.d_len rfl h_len (u_var 3)))) (s_cons (s_for hpB rfl (i_list (d_meth c_Pairing_near hr tkB (u_var 0) (a_cons (d_ix hr.units (u_var 3) (u_var 4)) a_nil) (by omega))) (g_name sc.nd rfl (by first | exact .inl rfl | exact .inr rfl)) (s_one (s_if (t_nin hr.units (u_var 5) (u_var 2)) (s_cons (s_put 2 hr.units (u_var 5) (d_ix hr.units (u_var 3) (u_var 4)))
      (s_one (s_if (t_in hr.units (u_var 5) (u_fld "Pairing" (FldK.x fl_Pairing_mates) (u_var 0))) (s_one (s_app 3 (d_ix hr.units (u_fld "Pairing" (FldK.x fl_Pairing_mates) (u_var 0)) (u_var 5)))) s_nil))) s_nil)))
      (s_one (s_augI sc.nd rfl (by first | exact .inl rfl | exact .inr rfl) d_int))))
      (s_one (s_ret (d_var 2))))))))
/-! Pairing_grow -/
abbrev s_Pairing_grow : Stmt := (inClass (top 8) 6)
abbrev N_Pairing_grow : List Str := ["self", "at", "came", "ends", "other", "here", "further"]
def m_Pairing_grow : T := (sq (sSet 2 ([] ++ (([1] ++ []) ++ [])) (mMeth "Pairing" "spread" 2 fu_Pairing_spread (mV 0) (aCons (mLst (aCons (mV 1) aNil)) aNil)))
    (sq (sSetO 3 (4 :: ([] ++ [4])) (mCompK 4 (mVal 2) (b2 (mV 4) (mFld "Pairing" "mates" (mV 0)) gNotIn) (mV 4)))
    (sq (sIf (b2 (mV 3) (mLst aNil) gEq) (fun _ ρ ω => .rt .non ω) sNx)
    (sq (sSet 4 [] (m1 (mV 3) gMinL))
    (sq (sSet 5 ([] ++ []) (m2 (mV 2) (mV 4) gIx))
    (sq (mWh (b2 (mV 5) (mV 1) gNe) (sq (sSet 6 ([] ++ []) (m2 (mFld "Pairing" "mates" (mV 0)) (mV 5) gIx))
    (sq (sPutF "Pairing" "mates" [5] (mV 0) (mV 4) (mV 5))
    (sq (sPutF "Pairing" "mates" [4] (mV 0) (mV 5) (mV 4))
    (sq (sSet 4 [6] (mV 6))
    (sSet 5 ([] ++ []) (m2 (mV 2) (mV 4) gIx)))))) 200)
    (sq (sPutF "Pairing" "mates" [1] (mV 0) (mV 4) (mV 1))
    (sPutF "Pairing" "mates" [4] (mV 0) (mV 1) (mV 4)))))))))
def fu_Pairing_grow : Fu := fuOf 7 m_Pairing_grow
theorem sc_Pairing_grow : FnScope N_Pairing_grow ["self", "at"] (defScope s_Pairing_grow) := ⟨rfl, rfl, rfl, by decide +kernel, rfl, by decide +kernel, by decide +kernel⟩
theorem ok_Pairing_grow {P : Program} {w : World} {K : PySem.W.Frag} {mg : Str → Option Value} {base : Heap} {f : Addr} {fd : FuncData} {C : Addr} (F : FunD K "grow" "Pairing.grow" (defArgs s_Pairing_grow) (defBody s_Pairing_grow) (defScope s_Pairing_grow) [] [] f fd) (gm : mg "Pairing" = some (.ref C)) (hcl : Cls K C) (hmt : Meth K C "grow" f) (h_min : mg "min" = none) (fl_Pairing_mates : FldK K mg "Pairing" "mates") (c_Pairing_spread : Mc P w K mg base 7 "Pairing" "spread" 2 fu_Pairing_spread) : Mc P w K mg base 8 "Pairing" "grow" 2 fu_Pairing_grow := by
  have sc := sc_Pairing_grow
  exact mc_ok F sc gm hcl hmt (FunD.bindsN (ps := ["self", "at"]) F fun _ _ _ _ _ _ us hl => match us, hl with | [_, _], _ => rfl) rfl (fun cdv A outer s H E hr => (s_cons (s_set sc.nd rfl (by first | exact .inl rfl | exact .inr rfl) (d_meth c_Pairing_spread hr tkB (u_var 0) (a_cons (DF.dp (f_lst (a_cons (d_var 1) a_nil))) a_nil) (by omega)))
      (s_cons (s_setLcK (i0 := 3) (x := "other") (i := 4) (j := 2) rfl sc.nd rfl rfl (sw_true rfl rfl rfl rfl) (blkOk_by (N := N_Pairing_grow) (sc := defScope s_Pairing_grow) (by decide +kernel)) (fun _ _ _ _ _ => pg_name sc.nd rfl (.inl rfl) (.inr rfl)) (fun _ _ _ _ _ => (ts_one (t_nin hr.units (u_var 4) (u_fld "Pairing" (FldK.x fl_Pairing_mates) (u_var 0))))) (fun _ _ _ _ _ => (d_var 4)))
      (s_cons (s_if (t_eq hr.units (u_var 3) (DP.u (DF.dp (f_lst a_nil)))) (s_one s_retN) s_nil)
      (s_cons (s_set sc.nd rfl (by first | exact .inl rfl | exact .inr rfl) (d_minL rfl rfl h_min (u_var 3)))
      (s_cons (s_set sc.nd rfl (by first | exact .inl rfl | exact .inr rfl) (d_ix hr.units (u_var 2) (u_var 4)))
      (s_cons (s_while 200 hpB (t_ne hr.units (u_var 5) (u_var 1)) (s_cons (s_set sc.nd rfl (by first | exact .inl rfl | exact .inr rfl) (d_ix hr.units (u_fld "Pairing" (FldK.x fl_Pairing_mates) (u_var 0)) (u_var 5)))
      (s_cons (s_putF hr.units (FldK.x fl_Pairing_mates) (u_var 0) (u_var 4) (d_var 5))
      (s_cons (s_putF hr.units (FldK.x fl_Pairing_mates) (u_var 0) (u_var 5) (d_var 4))
      (s_cons (s_set sc.nd rfl (by first | exact .inl rfl | exact .inr rfl) (d_var 6))
      (s_one (s_set sc.nd rfl (by first | exact .inl rfl | exact .inr rfl) (d_ix hr.units (u_var 2) (u_var 4)))))))))
      (s_cons (s_putF hr.units (FldK.x fl_Pairing_mates) (u_var 0) (u_var 4) (d_var 1))
      (s_one (s_putF hr.units (FldK.x fl_Pairing_mates) (u_var 0) (u_var 1) (d_var 4)))))))))))
/-! Pairing_add -/
abbrev s_Pairing_add : Stmt := (inClass (top 8) 1)
abbrev N_Pairing_add : List Str := ["self", "kind", "rank", "at"]
def m_Pairing_add : T := (sq (sIf (b2 (mV 1) (mC (.ctup ([("necklace" : Str), ("armring" : Str)].map .str))) gNotIn) (fun _ _ ω => .er ⟨"BadKind", "bad kind"⟩ ω) sNx)
    (sq (sIf (b2 (mV 2) (mC (.int 1)) gLt) (fun _ _ ω => .er ⟨"BadRank", "bad rank"⟩ ω) sNx)
    (sq (sSet 3 [] (m1 (mFld "Pairing" "rows" (mV 0)) gLen))
    (sq (sAppF "Pairing" "rows" ([1] ++ ([2] ++ [])) (mV 0) (mTup (aCons (mV 1) (aCons (mV 2) aNil))))
    (sq (sDropX (xMeth "Pairing" "grow" 2 fu_Pairing_grow (mV 0) (xaP ([3] ++ []) (aCons (mV 3) aNil))))
    (sRet (mV 3)))))))
def fu_Pairing_add : Fu := fuOf 4 m_Pairing_add
theorem sc_Pairing_add : FnScope N_Pairing_add ["self", "kind", "rank"] (defScope s_Pairing_add) := ⟨rfl, rfl, rfl, by decide +kernel, rfl, by decide +kernel, by decide +kernel⟩
theorem ok_Pairing_add {P : Program} {w : World} {K : PySem.W.Frag} {mg : Str → Option Value} {base : Heap} {f : Addr} {fd : FuncData} {C : Addr} (F : FunD K "add" "Pairing.add" (defArgs s_Pairing_add) (defBody s_Pairing_add) (defScope s_Pairing_add) [] [] f fd) (gm : mg "Pairing" = some (.ref C)) (hcl : Cls K C) (hmt : Meth K C "add" f) (h_len : mg "len" = none) (h_KINDS : Ct K mg "KINDS" ["necklace", "armring"]) (fl_Pairing_rows : FldK K mg "Pairing" "rows") (c_Pairing_grow : Mc P w K mg base 8 "Pairing" "grow" 2 fu_Pairing_grow) (x_BadKind : Xc P w K mg base "BadKind" "bad kind") (x_BadRank : Xc P w K mg base "BadRank" "bad rank") : Mc P w K mg base 9 "Pairing" "add" 3 fu_Pairing_add := by
  have sc := sc_Pairing_add
  exact mc_ok F sc gm hcl hmt (FunD.bindsN (ps := ["self", "kind", "rank"]) F fun _ _ _ _ _ _ us hl => match us, hl with | [_, _, _], _ => rfl) rfl (fun cdv A outer s H E hr => (s_cons (s_if (t_nin hr.units (u_var 1) (DP.u (d_ctS rfl h_KINDS))) (s_one (s_raiseC rfl tkB x_BadKind hr)) s_nil)
      (s_cons (s_if (t_lt (u_var 2) (DP.u d_int)) (s_one (s_raiseC rfl tkB x_BadRank hr)) s_nil)
      (s_cons (s_set sc.nd rfl (by first | exact .inl rfl | exact .inr rfl) (DL.d_len rfl h_len (u_fld "Pairing" (FldK.x fl_Pairing_rows) (u_var 0))))
      (s_cons (s_appF (FldK.x fl_Pairing_rows) (u_var 0) (d_tup (a_cons (d_var 1) (a_cons (d_var 2) a_nil))))
      (s_cons (sx_expr (x_meth c_Pairing_grow hr tkB (u_var 0) (xa_pure (a_cons (d_var 3) a_nil)) (by omega)))
      (s_one (s_ret (d_var 3)))))))))
/-! law -/
abbrev s_law : Stmt := (top 18)
abbrev N_law : List Str := ["_law_script", "_law_made", "_law_rows_here", "_law_start", "_law_k", "_law_order", "_law_mates", "_law_at"]
def m_law : T := (sq (sSetX 1 (xMake "Pairing" 1 fu_Pairing___init__ (xaP [] aNil)))
    (sq (sSet 2 ([] ++ (([0] ++ ([] ++ [])) ++ [])) (mCall 2 fu__law_rows (aCons (mSl (mV 0) (oSome (mC (.int 1))) oNone) (aCons (mCall 2 fu__law_cell (aCons (mV 0) (aCons (mC (.int 0)) aNil))) aNil))))
    (sq (sSet 3 (([0] ++ ([] ++ [])) ++ []) (m2 (mCall 2 fu__law_cell (aCons (mV 0) (aCons (mC (.int 1)) aNil))) (mC (.int 61)) gMod))
    (sq (sFor [] (iRng (m1 (mV 2) gLen)) (gN 4) (sq (sDropX (xMeth "Pairing" "add" 3 fu_Pairing_add (mV 1) (xaP ((([] ++ []) ++ []) ++ ((([] ++ []) ++ []) ++ [])) (aCons (m2 (m2 (mV 2) (mV 4) gIx) (mC (.int 0)) gIx) (aCons (m2 (m2 (mV 2) (mV 4) gIx) (mC (.int 1)) gIx) aNil)))))
    (sq (sIf (bAnd (b2 (mV 4) (mC (.int 12)) gGt) (bAnd (b2 (m2 (mV 4) (mC (.int 7)) gMod) (mC (.int 0)) gGt) (b2 (mV 4) (m2 (m1 (mV 2) gLen) (mC (.int 1)) gSub) gLt))) (fun _ ρ ω => .ct ρ ω) sNx)
    (sq (sSetO 5 (7 :: (([] ++ []) ++ (([] ++ []) ++ ([] ++ [])))) (mComp 7 ([] ++ []) (iRng (m2 (mV 4) (mC (.int 1)) gAdd)) bTrue (m2 (m2 (mV 3) (mV 7) gAdd) (m2 (mV 4) (mC (.int 1)) gAdd) gMod)))
    (sq (sIf (b2 (m2 (mV 3) (mC (.int 2)) gMod) (mC (.int 1)) gEq) (sSet 5 [] (m1 (mV 5) gRev)) sNx)
    (sq (sSet 6 [] (mC (.dK [])))
    (sq (sFor [5] (iLst (mV 5)) (gN 7) (sIf (b2 (mV 7) (mV 6) gNotIn) (sSet 6 ([] ++ ([6] ++ ([7] ++ []))) (mCall 3 fu__law_led (aCons (mSl (mV 2) oNone (oSome (m2 (mV 4) (mC (.int 1)) gAdd))) (aCons (mV 6) (aCons (mV 7) aNil))))) sNx))
    (sq (sIf (bNot (bV (mCall 2 (fuR__law_same 2) (aCons (m2 (mC (.int 2)) (m1 (mMeth "Pairing" "pairs" 1 fu_Pairing_pairs (mV 1) aNil) gLen) gMul) (aCons (m1 (mV 6) gLen) aNil))))) (sRet (mC (.bl false))) sNx)
    (sIf (bAnd (b2 (mV 4) (mC (.int 9)) gLt) (b2 (m1 (mMeth "Pairing" "pairs" 1 fu_Pairing_pairs (mV 1) aNil) gLen) (mCall 1 fu__law_most (aCons (mSl (mV 2) oNone (oSome (m2 (mV 4) (mC (.int 1)) gAdd))) aNil)) gNe)) (sRet (mC (.bl false))) sNx)))))))))
    (sRet (mCall 2 (fuR__law_same 2) (aCons (m2 (m1 (mMeth "Pairing" "settled" 1 fu_Pairing_settled (mV 1) aNil) gLen) (m1 (mMeth "Pairing" "unsettled" 1 fu_Pairing_unsettled (mV 1) aNil) gLen) gAdd) (aCons (m1 (mV 2) gLen) aNil))))))))
theorem sc_law : FnScope N_law ["_law_script"] (defScope s_law) := ⟨rfl, rfl, rfl, by decide +kernel, rfl, by decide +kernel, by decide +kernel⟩
theorem ok_law {P : Program} {w : World} {K : PySem.W.Frag} {mg : Str → Option Value} {base : Heap} {f : Addr} {fd : FuncData} (F : FunD K "law" "law" (defArgs s_law) (defBody s_law) (defScope s_law) [] [] f fd) (h_len : mg "len" = none) (h_range : mg "range" = none) (k_Pairing : Kc P w K mg base 1 "Pairing" 1 fu_Pairing___init__) (c_Pairing_add : Mc P w K mg base 9 "Pairing" "add" 3 fu_Pairing_add) (c_Pairing_pairs : Mc P w K mg base 1 "Pairing" "pairs" 1 fu_Pairing_pairs) (c_Pairing_settled : Mc P w K mg base 1 "Pairing" "settled" 1 fu_Pairing_settled) (c_Pairing_unsettled : Mc P w K mg base 1 "Pairing" "unsettled" 1 fu_Pairing_unsettled) (c__law_cell : Fc P w K mg base 1 "_law_cell" 2 fu__law_cell) (c__law_led : Fc P w K mg base 2 "_law_led" 3 fu__law_led) (c__law_most : Fc P w K mg base 2 "_law_most" 1 fu__law_most) (c__law_rows : Fc P w K mg base 2 "_law_rows" 2 fu__law_rows) (c__law_same : Fc P w K mg base 3 "_law_same" 2 (fuR__law_same 2)) (hg : ∀ ns : List Int, ns.length ≤ 63 → ∃ ω, toRR (m_law 0 (.own (.lst (ns.map .int)) :: List.replicate 7 .no) []) = .ok (.bl true) ω) : FnOk P w K mg base (L2.CX P w) 10 f fd ["_law_script"] (spLaw K) := by
  have sc := sc_law
  exact law_ok F sc (by first | exact .inl rfl | exact .inr rfl) (by first | exact Or.inl rfl | exact Or.inr (Or.inl rfl)) (fun cdv A outer s H E hr => ⟨rfl, (s_cons (sx_set sc.nd rfl (by first | exact .inl rfl | exact .inr rfl) (x_make0 k_Pairing hr tkB rfl (by omega)))
      (s_cons (s_set sc.nd rfl (by first | exact .inl rfl | exact .inr rfl) (d_callF c__law_rows hr tkB (a_cons (d_slice (u_var 0) (o_some (DP.u d_int)) o_none) (a_cons (d_callF c__law_cell hr tkB (a_cons (d_var 0) (a_cons d_int a_nil))) a_nil))))
      (s_cons (s_set sc.nd rfl (by first | exact .inl rfl | exact .inr rfl) (d_mod (DP.u (d_callF c__law_cell hr tkB (a_cons (d_var 0) (a_cons d_int a_nil)))) (DP.u d_int)))
      (s_cons (s_for hpB rfl (i_range rfl h_range (DP.u (DL.d_len rfl h_len (u_var 2)))) (g_name sc.nd rfl (by first | exact .inl rfl | exact .inr rfl)) (s_cons (sx_expr (x_meth c_Pairing_add hr tkB (u_var 1) (xa_pure (a_cons (d_ix hr.units (DP.u (d_ix hr.units (u_var 2) (u_var 4))) (DP.u d_int)) (a_cons (d_ix hr.units (DP.u (d_ix hr.units (u_var 2) (u_var 4))) (DP.u d_int)) a_nil))) (by omega)))
      (s_cons (s_if (DW.db (w_and (t_gt (u_var 4) (DP.u d_int)) (w_and (t_gt (DP.u (d_mod (u_var 4) (DP.u d_int))) (DP.u d_int)) (w_and1 (t_lt (u_var 4) (DP.u (d_sub (DP.u (DL.d_len rfl h_len (u_var 2))) (DP.u d_int)))))))) (s_one s_continue) s_nil)
      (s_cons (s_setLc (i := 5) (x := "_law_at") (j := 7) rfl sc.nd rfl rfl (sw_true rfl rfl rfl rfl) (i_range rfl h_range (DP.u (d_add (u_var 4) (DP.u d_int)))) (blkOk_by (N := N_law) (sc := defScope s_law) (by decide +kernel)) (fun _ _ _ _ _ => pg_name sc.nd rfl (.inl rfl) (.inr rfl)) (fun _ _ _ _ _ => ts_nil) (fun _ _ _ _ _ => (d_mod (DP.u (d_add (u_var 3) (u_var 7))) (DP.u (d_add (u_var 4) (DP.u d_int))))))
      (s_cons (s_if (t_eq hr.units (DP.u (d_mod (u_var 3) (DP.u d_int))) (DP.u d_int)) (s_one (s_set sc.nd rfl (by first | exact .inl rfl | exact .inr rfl) (DF.dp (f_rev (u_var 5))))) s_nil)
      (s_cons (s_set sc.nd rfl (by first | exact .inl rfl | exact .inr rfl) (DF.dp f_dK))
      (s_cons (s_for hpB rfl (i_list (d_var 5)) (g_name sc.nd rfl (by first | exact .inl rfl | exact .inr rfl)) (s_one (s_if (t_nin hr.units (u_var 7) (u_var 6)) (s_one (s_set sc.nd rfl (by first | exact .inl rfl | exact .inr rfl) (d_callF c__law_led hr tkB (a_cons (d_slice (u_var 2) o_none (o_some (DP.u (d_add (u_var 4) (DP.u d_int))))) (a_cons (d_var 6) (a_cons (d_var 7) a_nil)))))) s_nil)))
      (s_cons (s_if (t_not (t_val (d_callF c__law_same hr tkB (a_cons (d_mul (DP.u d_int) (DP.u (DL.d_len rfl h_len (DP.u (d_meth0 c_Pairing_pairs hr tkB (u_var 1) (by omega)))))) (a_cons (DL.d_len rfl h_len (u_var 6)) a_nil))))) (s_one (s_ret d_bl)) s_nil)
      (s_one (s_if (DW.db (w_and (t_lt (u_var 4) (DP.u d_int)) (w_and1 (t_ne hr.units (DP.u (DL.d_len rfl h_len (DP.u (d_meth0 c_Pairing_pairs hr tkB (u_var 1) (by omega))))) (DP.u (d_callF c__law_most hr tkB (a_cons (d_slice (u_var 2) o_none (o_some (DP.u (d_add (u_var 4) (DP.u d_int))))) a_nil))))))) (s_one (s_ret d_bl)) s_nil))))))))))
      (s_one (s_ret (d_callF c__law_same hr tkB (a_cons (d_add (DP.u (DL.d_len rfl h_len (DP.u (d_meth0 c_Pairing_settled hr tkB (u_var 1) (by omega))))) (DP.u (DL.d_len rfl h_len (DP.u (d_meth0 c_Pairing_unsettled hr tkB (u_var 1) (by omega)))))) (a_cons (DL.d_len rfl h_len (u_var 2)) a_nil)))))))))⟩) hg

def pd : Nat → D → Bool
  | 0, _ => false
  | _ + 1, .non => true
  | _ + 1, .bl _ => true
  | _ + 1, .int _ => true
  | _ + 1, .str _ => true
  | k + 1, .lst xs => decide (xs.length ≤ 1000) && xs.all (pd k)
  | k + 1, .tup xs => decide (xs.length ≤ 1000) && xs.all (pd k)
  | _ + 1, _ => false
theorem same_refl : ∀ (k : Nat) (x : D) (n0 : Nat) (ω : Store), pd k x = true → fuR__law_same k n0 [x, x] ω = .ok (.bl true) ω := by
  intro k
  induction k with
  | zero => intro x n0 ω h; cases h
  | succ k ih =>
    intro x n0 ω h
    have inner : ∀ (xs : List D) (mk : D), (∀ j : Nat, j < xs.length → ∃ d, gIx mk (.int (j : Int)) = .ok d ∧ pd k d = true) →
        compL 2 bTrue (mCall 2 (fuR__law_same k) (aCons (m2 (mV 0) (mV 2) gIx) (aCons (m2 (mV 1) (mV 2) gIx) aNil))) ω [.val mk, .val mk, .no] (rangeD 0 xs.length) = .ok ((rangeD 0 xs.length).map fun _ => .bl true) := by
      intro xs mk hx
      refine compL_all fun y hy => ?_
      obtain ⟨j, hj, rfl⟩ := rangeD_mem hy
      obtain ⟨d, e1, e2⟩ := hx j hj
      simp [e1, ih d _ ω e2]
    have bls : ∀ (l : List D), D.bls? (l.map fun _ => .bl true) = some (l.map fun _ => true) := by
      intro l
      induction l with
      | nil => rfl
      | cons a l ih => show (D.bls? (l.map fun _ => .bl true)).map (true :: ·) = _; rw [ih]; rfl
    cases x with
    | non => simp [fuR__law_same, m__law_same]
    | bl b => simp [fuR__law_same, m__law_same, isiB]
    | int b => simp [fuR__law_same, m__law_same, isiB]
    | str b => simp [fuR__law_same, m__law_same, isiB]
    | lst xs =>
      have h : (decide (xs.length ≤ 1000) && xs.all (pd k)) = true := h
      rw [Bool.and_eq_true, List.all_eq_true, decide_eq_true_eq] at h
      have key := inner xs (.lst xs) fun j hj => ⟨xs[j], gIx_lst (by omega) (by
        rw [show (j : Int).toNat = j from rfl]
        exact List.getElem?_eq_getElem hj), h.2 _ (List.getElem_mem hj)⟩
      have hb := asRng1_len (n := xs.length) (by omega)
      simp [fuR__law_same, m__law_same, isiB, hb, h.1, demote, dmS]
      rw [key]
      simp [bls]
    | tup xs =>
      have h : (decide (xs.length ≤ 1000) && xs.all (pd k)) = true := h
      rw [Bool.and_eq_true, List.all_eq_true, decide_eq_true_eq] at h
      have key := inner xs (.tup xs) fun j hj => ⟨xs[j], gIx_tup (by omega) (by
        rw [show (j : Int).toNat = j from rfl]
        exact List.getElem?_eq_getElem hj), h.2 _ (List.getElem_mem hj)⟩
      have hb := asRng1_len (n := xs.length) (by omega)
      simp [fuR__law_same, m__law_same, isiB, hb, h.1, demote, dmS]
      rw [key]
      simp [bls]
    | _ => cases h

theorem map_get {ns : List Int} {k : Nat} (h : k < ns.length) : (ns.map D.int)[k]? = some (.int (ns.getD k 0)) := by
  rw [List.getElem?_map, List.getElem?_eq_getElem h]
  simp [List.getD, List.getElem?_eq_getElem h]
def drawsL : Int → List Int → List Int
  | _, [] => []
  | c, p :: ps => c % p :: drawsL (c / p) ps
theorem draws_for (ω : Store) (n0 : Nat) (a b x y : Sl) : ∀ (ps : List Int) (c : Int) (acc : List Int) (z : Sl) (parts : D), (∀ p ∈ ps, 0 < p ∧ p < 1073741824) → acc.length + ps.length ≤ 1000 →
    ∃ c' z', mFor (gN 6) (sq (sApp 5 ([] ++ []) (m2 (mV 0) (mV 6) gMod)) (sSet 0 ([] ++ []) (m2 (mV 0) (mV 6) gDiv))) (ps.map D.int) n0 [.val (.int c), .val parts, a, b, x, .own (.lst (acc.map D.int)), z] ω
      = .nx [.val (.int c'), .val parts, a, b, x, .own (.lst ((acc ++ drawsL c ps).map D.int)), z'] ω := by
  intro ps
  induction ps with
  | nil => intro c acc z parts h hl; exact ⟨c, z, by simp [drawsL]⟩
  | cons p ps ih =>
    intro c acc z parts h hl
    have hp := h p List.mem_cons_self
    rw [List.length_cons] at hl
    have h1 : ¬ (1000000 ≤ acc.length) := by omega
    have h2 : acc.length < 1000000 := by omega
    obtain ⟨c', z', e⟩ := ih (c / p) (acc ++ [c % p]) (.val (.int p)) parts (fun q hq => h q (List.mem_cons_of_mem _ hq)) (by rw [List.length_append, List.length_singleton]; omega)
    refine ⟨c', z', ?_⟩
    rw [List.map_append] at e
    rw [show drawsL c (p :: ps) = c % p :: drawsL (c / p) ps from rfl, List.append_cons, ← e]
    simp [hp.1, gDiv_ok _ _ hp, h2]
theorem draws_eq (n0 : Nat) (c : Int) (ps : List Int) (ω : Store) (h : ∀ p ∈ ps, 0 < p ∧ p < 1073741824) (hl : ps.length ≤ 1000) : ∃ c', fu__law_draws n0 [.int c, .lst (ps.map .int)] ω = .ok (.lst ((drawsL c' ps).map .int)) ω := by
  have start : ∀ (c0 : Int) (a b x : Sl), toRR (sq (sSetO 5 [] (mLst aNil)) (sq (sFor [1] (iLst (mV 1)) (gN 6) (sq (sApp 5 ([] ++ []) (m2 (mV 0) (mV 6) gMod)) (sSet 0 ([] ++ []) (m2 (mV 0) (mV 6) gDiv)))) (sRet (mV 5))) n0 [.val (.int c0), .val (.lst (ps.map .int)), a, b, x, .no, .no] ω) = .ok (.lst ((drawsL c0 ps).map .int)) ω := by
    intro c0 a b x
    obtain ⟨c', z', e⟩ := draws_for ω n0 a b x x ps c0 [] .no (.lst (ps.map .int)) h (by simpa using hl)
    rw [List.map_nil, List.nil_append] at e
    simp only [sq, sSetO, mLst, aNil, ofE, Res.bind_ok, sFor, iLst, mV, demO, D.inFree, D.frees]
    simp [demote, dmS, e]
  have hsz : ∀ a b : Int, 0 < b → 0 ≤ a % b ∧ a % b < b := fun a b hb => ⟨Int.emod_nonneg _ (by omega), Int.emod_lt_of_pos _ hb⟩
  show ∃ c', toRR (m__law_draws n0 (envS 7 [.int c, .lst (ps.map .int)]) ω) = _
  by_cases hc : (if c < 0 then -c else c) < 1000000000000000000
  · have b1 := hsz (c * 48271 + 11) 2147483647 (by decide)
    generalize e1 : (c * 48271 + 11) % 2147483647 = x1 at b1
    have g1 : -18446744073709551616 < x1 ∧ x1 < 18446744073709551616 := by omega
    have b2 := hsz (x1 * x1 + 40692 * x1 + c) 2147483399 (by decide)
    generalize e2 : (x1 * x1 + 40692 * x1 + c) % 2147483399 = x2 at b2
    have b3 := hsz (x2 * 16807 + x1) 1000000007 (by decide)
    generalize e3 : (x2 * 16807 + x1) % 1000000007 = x3 at b3
    refine ⟨x2 + 2147483399 * (x3 + 1000000007 * x1), ?_⟩
    rw [← start _ (.val (.int x1)) (.val (.int x2)) (.val (.int x3))]
    unfold m__law_draws
    congr 1
    refine sq_nx ?_
    simp [envS, hc, e1, gMul_r x1 x1 g1, e2, e3]
  · refine ⟨(if c < 0 then -c else c) - 1000000000000000000, ?_⟩
    rw [← start _ .no .no .no]
    unfold m__law_draws
    congr 1
    refine sq_nx ?_
    simp [envS, hc]
theorem drawsL_at : ∀ {ps : List Int} {c : Int} {i : Nat} {p : Int}, ps[i]? = some p → 0 < p → ∃ x, (drawsL c ps)[i]? = some x ∧ 0 ≤ x ∧ x < p
  | [], c, i, p, h, _ => by simp at h
  | q :: ps, c, 0, p, h, hp => by
    have e : q = p := by simpa using h
    subst e
    exact ⟨c % q, rfl, Int.emod_nonneg _ (by omega), Int.emod_lt_of_pos _ hp⟩
  | q :: ps, c, i + 1, p, h, hp => by
    have h : ps[i]? = some p := by simpa using h
    obtain ⟨x, h1, h2⟩ := drawsL_at (c := c / q) h hp
    exact ⟨x, by simpa [drawsL] using h1, h2⟩
theorem drawsL_len : ∀ {ps : List Int} {c : Int}, (drawsL c ps).length = ps.length
  | [], _ => rfl
  | p :: ps, c => by show (drawsL (c / p) ps).length + 1 = ps.length + 1; rw [drawsL_len]
theorem ix_ints {xs : List Int} {k : Int} {x : Int} (h0 : 0 ≤ k) (h : xs[k.toNat]? = some x) : gIx (.lst (xs.map .int)) (.int k) = .ok (.int x) := gIx_lst h0 (by rw [List.getElem?_map, h]; rfl)

/-! ### matchings, ways that change -/
structure Gph (fit : Nat → Nat → Bool) (kd : Nat → Bool) : Prop where
  sym : ∀ i j, fit i j = true → fit j i = true
  kd : ∀ i j, fit i j = true → kd i = !kd j
structure Mat (fit : Nat → Nat → Bool) (n : Nat) (μ : Nat → Option Nat) : Prop where
  sym : ∀ i j, μ i = some j → μ j = some i
  fit : ∀ i j, μ i = some j → fit i j = true
  lt : ∀ i j, μ i = some j → i < n
abbrev Kl := List (Nat × Nat)
def hasK (ks : Kl) (o : Nat) : Bool := ks.any fun p => decide (p.1 = o)
def visit (μ : Nat → Option Nat) (v : Nat) : List Nat → Kl → List Nat → Kl × List Nat
  | [], ks, row => (ks, row)
  | o :: r, ks, row => if hasK ks o = true then visit μ v r ks row else visit μ v r (ks ++ [(o, v)]) (match μ o with | some w => row ++ [w] | none => row)
def bfs (near : Nat → List Nat) (μ : Nat → Option Nat) : Nat → Nat → Kl → List Nat → Option (Kl × List Nat)
  | 0, _, _, _ => none
  | f + 1, k, ks, row => match row[k]? with
    | none => some (ks, row)
    | some v => bfs near μ f (k + 1) (visit μ v (near v) ks row).1 (visit μ v (near v) ks row).2
theorem hasK_iff {ks : Kl} {o : Nat} : hasK ks o = true ↔ o ∈ ks.map (·.1) := by
  unfold hasK
  rw [List.any_eq_true, List.mem_map]
  constructor
  · rintro ⟨p, hp, e⟩
    exact ⟨p, hp, of_decide_eq_true e⟩
  · rintro ⟨p, hp, e⟩
    exact ⟨p, hp, decide_eq_true e⟩
/-- what is kept while ways spread -/
structure Sp0 (fit : Nat → Nat → Bool) (n : Nat) (μ : Nat → Option Nat) (bg : List Nat) (ks : Kl) (row : List Nat) : Prop where
  row_eq : row = bg ++ ks.filterMap fun p => μ p.1
  nd : (ks.map (·.1)).Nodup
  ok : ∀ p ∈ ks, p.1 < n ∧ fit p.2 p.1 = true
  par : ∀ (i : Nat) (p : Nat × Nat), ks[i]? = some p → p.2 ∈ bg ∨ ∃ j c, j < i ∧ ks[j]? = some c ∧ μ c.1 = some p.2
section
variable {fit : Nat → Nat → Bool} {n : Nat} {kd : Nat → Bool} {μ : Nat → Option Nat} {bg : List Nat} {ks : Kl} {row : List Nat}
theorem Sp0.mem (S : Sp0 fit n μ bg ks row) {v : Nat} (h : v ∈ row) : v ∈ bg ∨ ∃ (j : Nat) (c : Nat × Nat), ks[j]? = some c ∧ μ c.1 = some v := by
  rw [S.row_eq] at h
  rcases List.mem_append.mp h with h | h
  · exact .inl h
  · obtain ⟨c, hc, e⟩ := List.mem_filterMap.mp h
    obtain ⟨j, hj⟩ := List.mem_iff_getElem?.mp hc
    exact .inr ⟨j, c, hj, e⟩
theorem Sp0.more (S : Sp0 fit n μ bg ks row) {o v : Nat} (hv : v ∈ row) (ho : o < n) (hf : fit v o = true) (hn : hasK ks o = false) : Sp0 fit n μ bg (ks ++ [(o, v)]) (match μ o with | some w => row ++ [w] | none => row) where
  row_eq := by
    rw [List.filterMap_append]
    show (match μ o with | some w => row ++ [w] | none => row) = bg ++ (ks.filterMap _ ++ ([(o, v)].filterMap _))
    cases e : μ o with
    | none => simp [e, S.row_eq]
    | some w => simp [e, S.row_eq]
  nd := by
    rw [List.map_append, List.nodup_append]
    refine ⟨S.nd, by simp, ?_⟩
    intro a ha b hb
    have : b = o := by simpa using hb
    subst this
    intro e
    subst e
    rw [hasK_iff.mpr ha] at hn
    cases hn
  ok := fun p hp => by
    rcases List.mem_append.mp hp with hp | hp
    · exact S.ok p hp
    · have : p = (o, v) := by simpa using hp
      subst this
      exact ⟨ho, hf⟩
  par := fun i p hp => by
    by_cases hi : i < ks.length
    · rw [List.getElem?_append_left hi] at hp
      rcases S.par i p hp with h | ⟨j, c, hj, hc, e⟩
      · exact .inl h
      · exact .inr ⟨j, c, hj, by rw [List.getElem?_append_left (by omega)]; exact hc, e⟩
    · rw [List.getElem?_append_right (by omega)] at hp
      have hz : i - ks.length = 0 := by
        have := (List.getElem?_eq_some_iff.mp hp).1
        simpa using this
      rw [hz] at hp
      have : (o, v) = p := by simpa using hp
      subst this
      rcases S.mem hv with h | ⟨j, c, hc, e⟩
      · exact .inl h
      · have hj := (List.getElem?_eq_some_iff.mp hc).1
        exact .inr ⟨j, c, by omega, by rw [List.getElem?_append_left hj]; exact hc, e⟩
theorem visit_ok {v : Nat} : ∀ {l : List Nat} {ks : Kl} {row : List Nat}, Sp0 fit n μ bg ks row → v ∈ row → (∀ o ∈ l, o < n ∧ fit v o = true) →
    Sp0 fit n μ bg (visit μ v l ks row).1 (visit μ v l ks row).2 ∧ (∃ t, (visit μ v l ks row).1 = ks ++ t) ∧ (∃ t, (visit μ v l ks row).2 = row ++ t) ∧ ∀ o ∈ l, o ∈ (visit μ v l ks row).1.map (·.1)
  | [], ks, row, S, _, _ => ⟨S, ⟨[], by simp [visit]⟩, ⟨[], by simp [visit]⟩, fun o h => by cases h⟩
  | o :: l, ks, row, S, hv, hl => by
    unfold visit
    have ho := hl o List.mem_cons_self
    have hl' : ∀ o ∈ l, o < n ∧ fit v o = true := fun x hx => hl x (List.mem_cons_of_mem _ hx)
    by_cases h : hasK ks o = true
    · rw [if_pos h]
      obtain ⟨a, b, c, d⟩ := visit_ok S hv hl'
      refine ⟨a, b, c, fun x hx => ?_⟩
      rcases List.mem_cons.mp hx with e | hx
      · subst e
        obtain ⟨t, e⟩ := b
        rw [e, List.map_append]
        exact List.mem_append_left _ (hasK_iff.mp h)
      · exact d x hx
    · rw [if_neg h]
      have hf : hasK ks o = false := by
        cases z : hasK ks o with
        | false => rfl
        | true => exact absurd z h
      have S2 := S.more hv ho.1 ho.2 hf
      have hr : ∃ t, (match μ o with | some w => row ++ [w] | none => row) = row ++ t := by
        cases μ o with
        | none => exact ⟨[], by simp⟩
        | some w => exact ⟨[w], rfl⟩
      obtain ⟨t0, e0⟩ := hr
      rw [e0] at S2 ⊢
      obtain ⟨a, ⟨t1, e1⟩, ⟨t2, e2⟩, d⟩ := visit_ok S2 (List.mem_append_left _ hv) hl'
      refine ⟨a, ⟨(o, v) :: t1, by rw [e1]; simp⟩, ⟨t0 ++ t2, by rw [e2]; simp⟩, fun x hx => ?_⟩
      rcases List.mem_cons.mp hx with e | hx
      · subst e
        rw [e1]; simp
      · exact d x hx
theorem subset_len {α : Type} [DecidableEq α] : ∀ {l l' : List α}, l.Nodup → (∀ x ∈ l, x ∈ l') → l.length ≤ l'.length
  | [], _, _, _ => Nat.zero_le _
  | a :: l, l', h, s => by
    rw [List.nodup_cons] at h
    have ha : a ∈ l' := s a List.mem_cons_self
    have ih := subset_len (l' := l'.erase a) h.2 (fun x hx => (List.mem_erase_of_ne (fun e => h.1 (by rw [← e]; exact hx))).mpr (s x (List.mem_cons_of_mem _ hx)))
    rw [List.length_erase_of_mem ha] at ih
    have := List.length_pos_of_mem ha
    rw [List.length_cons]; omega
theorem lt_len {l : List Nat} {n : Nat} (h : l.Nodup) (s : ∀ x ∈ l, x < n) : l.length ≤ n := by
  have := subset_len (l' := List.range n) h (fun x hx => List.mem_range.mpr (s x hx))
  rwa [List.length_range] at this
/-- all ways, spread -/
structure Rch (fit : Nat → Nat → Bool) (n : Nat) (μ : Nat → Option Nat) (bg : List Nat) (ks : Kl) (row : List Nat) : Prop extends Sp0 fit n μ bg ks row where
  clo : ∀ v ∈ row, ∀ o, o < n → fit v o = true → o ∈ ks.map (·.1)
theorem Sp0.len (S : Sp0 fit n μ bg ks row) : ks.length ≤ n ∧ row.length ≤ bg.length + n := by
  have h1 : ks.length ≤ n := by
    have := lt_len S.nd (n := n) (fun x hx => by
      obtain ⟨p, hp, e⟩ := List.mem_map.mp hx
      rw [← e]; exact (S.ok p hp).1)
    rwa [List.length_map] at this
  have h2 := List.length_filterMap_le (fun p : Nat × Nat => μ p.1) ks
  rw [S.row_eq, List.length_append]
  exact ⟨h1, by omega⟩
theorem bfs_ok {near : Nat → List Nat} (hnear : ∀ v o, o ∈ near v ↔ o < n ∧ fit v o = true) : ∀ (f k : Nat) (ks : Kl) (row : List Nat), Sp0 fit n μ bg ks row → (∀ j v, j < k → row[j]? = some v → ∀ o, o < n → fit v o = true → o ∈ ks.map (·.1)) → k ≤ row.length → bg.length + n < f + k →
    ∃ ks' row', bfs near μ f k ks row = some (ks', row') ∧ Rch fit n μ bg ks' row'
  | 0, k, ks, row, S, _, hk, hf => by
    have := S.len.2
    omega
  | f + 1, k, ks, row, S, hc, hk, hf => by
    unfold bfs
    cases e : row[k]? with
    | none =>
      refine ⟨ks, row, rfl, S, fun v hv => ?_⟩
      obtain ⟨j, hj⟩ := List.mem_iff_getElem?.mp hv
      have h1 := (List.getElem?_eq_some_iff.mp hj).1
      have h2 := List.getElem?_eq_none_iff.mp e
      exact hc j v (by omega) hj
    | some v =>
      dsimp only
      have hv : v ∈ row := List.mem_iff_getElem?.mpr ⟨k, e⟩
      have hk' := (List.getElem?_eq_some_iff.mp e).1
      obtain ⟨a, ⟨t1, e1⟩, ⟨t2, e2⟩, d⟩ := visit_ok (l := near v) S hv (fun o ho => (hnear v o).mp ho)
      refine bfs_ok hnear f (k + 1) _ _ a (fun j w hj hw o ho hfo => ?_) (by rw [e2, List.length_append]; omega) (by omega)
      by_cases hjk : j = k
      · subst hjk
        rw [e2, List.getElem?_append_left hk', e] at hw
        have : v = w := by simpa using hw
        subst this
        exact d o ((hnear v o).mpr ⟨ho, hfo⟩)
      · rw [e2, List.getElem?_append_left (by omega)] at hw
        rw [e1, List.map_append]
        exact List.mem_append_left _ (hc j w (by omega) hw o ho hfo)
theorem Sp0.start : Sp0 fit n μ bg [] bg := ⟨by simp, List.nodup_nil, (fun p hp => by cases hp), (fun i p hp => by simp at hp)⟩
/-- ways spread from anywhere -/
theorem reach {near : Nat → List Nat} (hnear : ∀ v o, o ∈ near v ↔ o < n ∧ fit v o = true) {f : Nat} (hf : bg.length + n < f) : ∃ ks row, bfs near μ f 0 [] bg = some (ks, row) ∧ Rch fit n μ bg ks row :=
  bfs_ok hnear f 0 [] bg Sp0.start (fun j v h => by omega) (Nat.zero_le _) (by omega)
theorem reach_any (fit : Nat → Nat → Bool) (n : Nat) (μ : Nat → Option Nat) (bg : List Nat) : ∃ ks row, Rch fit n μ bg ks row := by
  obtain ⟨ks, row, _, h⟩ := reach (fit := fit) (n := n) (μ := μ) (bg := bg) (near := fun v => (List.range n).filter fun o => fit v o) (fun v o => by rw [List.mem_filter, List.mem_range]) (f := bg.length + n + 1) (by omega)
  exact ⟨ks, row, h⟩
theorem bnot_inj {a b : Bool} (h : (!a) = !b) : a = b := by cases a <;> cases b <;> first | rfl | cases h
/-- the kinds along the ways -/
theorem Sp0.kinds (S : Sp0 fit n μ bg ks row) (g : Gph fit kd) (M : Mat fit n μ) {K : Bool} (hb : ∀ b ∈ bg, kd b = K) : ∀ (i : Nat) (p : Nat × Nat), ks[i]? = some p → kd p.1 = !K ∧ kd p.2 = K := by
  intro i
  induction i using Nat.strongRecOn with
  | _ i ih =>
    intro p hp
    have hk2 : kd p.2 = K := by
      rcases S.par i p hp with h | ⟨j, c, hj, hc, e⟩
      · exact hb _ h
      · have h1 := (ih j hj c hc).1
        have h2 := g.kd _ _ (M.fit _ _ e)
        rw [h1] at h2
        exact (bnot_inj h2).symm
    refine ⟨?_, hk2⟩
    have h3 := g.kd _ _ (S.ok p (List.mem_iff_getElem?.mpr ⟨i, hp⟩)).2
    rw [hk2] at h3
    rw [h3]; cases kd p.1 <;> rfl
theorem Sp0.row_kind (S : Sp0 fit n μ bg ks row) (g : Gph fit kd) (M : Mat fit n μ) {K : Bool} (hb : ∀ b ∈ bg, kd b = K) {v : Nat} (hv : v ∈ row) : kd v = K := by
  rcases S.mem hv with h | ⟨j, c, hc, e⟩
  · exact hb _ h
  · have h1 := (S.kinds g M hb j c hc).1
    have h2 := g.kd _ _ (M.fit _ _ e)
    rw [h1] at h2
    exact (bnot_inj h2).symm
/-- from the ends back -/
def upm (μ : Nat → Option Nat) (i j : Nat) : Nat → Option Nat := fun x => if x = i then some j else μ x
theorem upm_eq {i j : Nat} : upm μ i j i = some j := if_pos rfl
theorem upm_ne {i j x : Nat} (h : x ≠ i) : upm μ i j x = μ x := if_neg h
def getA : Kl → Nat → Option Nat
  | [], _ => none
  | p :: r, k => if p.1 = k then some p.2 else getA r k
theorem getA_mem {k v : Nat} : ∀ {ks : Kl}, getA ks k = some v → (k, v) ∈ ks
  | [], h => by cases h
  | p :: r, h => by
    unfold getA at h
    split at h
    · rename_i e
      cases h
      subst e
      exact List.mem_cons_self
    · exact List.mem_cons_of_mem _ (getA_mem h)
theorem getA_of {k v : Nat} : ∀ {ks : Kl}, (ks.map (·.1)).Nodup → (k, v) ∈ ks → getA ks k = some v
  | [], _, h => by cases h
  | p :: r, hn, h => by
    rw [List.map_cons, List.nodup_cons] at hn
    unfold getA
    rcases List.mem_cons.mp h with e | h
    · subst e
      rw [if_pos rfl]
    · have : p.1 ≠ k := fun e => hn.1 (by rw [e]; exact List.mem_map.mpr ⟨_, h, rfl⟩)
      rw [if_neg this]
      exact getA_of hn.2 h
def flipG (ks : Kl) (bg : List Nat) : Nat → (Nat → Option Nat) → Nat → Option (Nat → Option Nat)
  | 0, _, _ => none
  | f + 1, μ, o => match getA ks o with
    | none => none
    | some h => if h ∈ bg then some (upm (upm μ o h) h o) else match μ h with
      | none => none
      | some fu => flipG ks bg f (upm (upm μ o h) h o) fu
/-- half turned: all but o is a matching -/
structure Half (fit : Nat → Nat → Bool) (n : Nat) (μ0 μ : Nat → Option Nat) (ks : Kl) (i o : Nat) : Prop where
  sym : ∀ x y, x ≠ o → μ x = some y → μ y = some x ∧ y ≠ o
  fit : ∀ x y, x ≠ o → μ x = some y → fit x y = true ∧ x < n
  old : ∀ (j : Nat) (c : Nat × Nat), j < i → ks[j]? = some c → μ c.1 = μ0 c.1
  oldp : ∀ (j : Nat) (c : Nat × Nat) (w : Nat), j < i → ks[j]? = some c → μ0 c.1 = some w → μ w = some c.1
theorem flip_ok (g : Gph fit kd) {μ0 : Nat → Option Nat} (M : Mat fit n μ0) (S : Sp0 fit n μ0 bg ks row) {K : Bool} (hb : ∀ b ∈ bg, kd b = K ∧ μ0 b = none ∧ b < n) : ∀ (f i : Nat) (μ : Nat → Option Nat) (o h0 : Nat), i < f → ks[i]? = some (o, h0) → Half fit n μ0 μ ks i o → (∀ b ∈ bg, μ b = none) →
    ∃ ν b, flipG ks bg f μ o = some ν ∧ Mat fit n ν ∧ b ∈ bg ∧ ∀ x, (ν x ≠ none ↔ μ x ≠ none ∨ x = o ∨ x = b) := by
  have kk := S.kinds g M fun b h => (hb b h).1
  intro f
  induction f with
  | zero => intro i μ o h0 hf; omega
  | succ f ih =>
    intro i μ o h0 hf hi H hbg
    have hmem : (o, h0) ∈ ks := List.mem_iff_getElem?.mpr ⟨i, hi⟩
    have hget : getA ks o = some h0 := getA_of S.nd hmem
    have ho := S.ok _ hmem
    have hk := kk i _ hi
    have hne : o ≠ h0 := fun e => by
      have h1 : kd o = !K := hk.1
      have h2 : kd h0 = K := hk.2
      rw [e, h2] at h1
      cases K <;> cases h1
    unfold flipG
    rw [hget]
    dsimp only
    by_cases hin : h0 ∈ bg
    · rw [if_pos hin]
      have hz := hbg h0 hin
      refine ⟨_, h0, rfl, ⟨fun x y e => ?_, fun x y e => ?_, fun x y e => ?_⟩, hin, fun x => ?_⟩
      · by_cases h1 : x = h0
        · subst h1
          rw [upm_eq] at e
          cases e
          rw [upm_ne hne, upm_eq]
        · rw [upm_ne h1] at e
          by_cases h2 : x = o
          · subst h2
            rw [upm_eq] at e
            cases e
            exact upm_eq
          · rw [upm_ne h2] at e
            obtain ⟨s1, s2⟩ := H.sym x y h2 e
            have h3 : y ≠ h0 := fun q => by rw [q, hz] at s1; cases s1
            rw [upm_ne h3, upm_ne s2]
            exact s1
      · by_cases h1 : x = h0
        · subst h1
          rw [upm_eq] at e
          cases e
          exact ho.2
        · rw [upm_ne h1] at e
          by_cases h2 : x = o
          · subst h2
            rw [upm_eq] at e
            cases e
            exact g.sym _ _ ho.2
          · rw [upm_ne h2] at e
            exact (H.fit x y h2 e).1
      · by_cases h1 : x = h0
        · rw [h1]; exact (hb h0 hin).2.2
        · rw [upm_ne h1] at e
          by_cases h2 : x = o
          · rw [h2]; exact ho.1
          · rw [upm_ne h2] at e
            exact (H.fit x y h2 e).2
      · by_cases h1 : x = h0
        · subst h1
          rw [upm_eq]; simp
        · rw [upm_ne h1]
          by_cases h2 : x = o
          · subst h2
            rw [upm_eq]; simp
          · rw [upm_ne h2]; simp [h1, h2]
    · rw [if_neg hin]
      rcases S.par i _ hi with hp | ⟨j, c, hj, hc, e⟩
      · exact absurd hp hin
      · have e : μ0 c.1 = some h0 := e
        have e1 : μ c.1 = some h0 := by rw [H.old j c hj hc]; exact e
        have e2 : μ h0 = some c.1 := H.oldp j c h0 hj hc e
        rw [e2]
        dsimp only
        have hcn : c.1 ≠ o := fun q => by
          have hnd := S.nd
          have h1 : (ks.map (·.1))[j]? = some c.1 := by rw [List.getElem?_map, hc]; rfl
          have h2 : (ks.map (·.1))[i]? = some o := by rw [List.getElem?_map, hi]; rfl
          rw [q] at h1
          have l1 := (List.getElem?_eq_some_iff.mp h1).1
          have := (List.getElem?_inj (i := j) (j := i) l1 hnd).mp (by rw [h1, h2])
          omega
        have hck := kk j c hc
        have hch : c.1 ≠ h0 := fun q => by
          have h1 : kd c.1 = !K := hck.1
          rw [q] at h1
          have h2 : kd h0 = K := hk.2
          rw [h2] at h1
          cases K <;> cases h1
        have hcc : ks[j]? = some (c.1, c.2) := hc
        have H2 : Half fit n μ0 (upm (upm μ o h0) h0 o) ks j c.1 := by
          refine ⟨fun x y hx hxy => ?_, fun x y hx hxy => ?_, fun l d hl hd => ?_, fun l d w hl hd hw => ?_⟩
          · by_cases h1 : x = h0
            · subst h1
              rw [upm_eq] at hxy
              cases hxy
              exact ⟨by rw [upm_ne hne, upm_eq], fun q => hcn q.symm⟩
            · rw [upm_ne h1] at hxy
              by_cases h2 : x = o
              · subst h2
                rw [upm_eq] at hxy
                cases hxy
                exact ⟨upm_eq, fun q => hch q.symm⟩
              · rw [upm_ne h2] at hxy
                obtain ⟨s1, s2⟩ := H.sym x y h2 hxy
                have h3 : y ≠ h0 := fun q => by
                  rw [q, e2] at s1
                  exact hx (Option.some.inj s1).symm
                refine ⟨by rw [upm_ne h3, upm_ne s2]; exact s1, fun q => ?_⟩
                rw [q, e1] at s1
                exact h1 (Option.some.inj s1).symm
          · by_cases h1 : x = h0
            · subst h1
              rw [upm_eq] at hxy
              cases hxy
              exact ⟨ho.2, (H.fit _ _ (Ne.symm hne) e2).2⟩
            · rw [upm_ne h1] at hxy
              by_cases h2 : x = o
              · subst h2
                rw [upm_eq] at hxy
                cases hxy
                exact ⟨g.sym _ _ ho.2, ho.1⟩
              · rw [upm_ne h2] at hxy
                exact H.fit x y h2 hxy
          · have n1 : d.1 ≠ h0 := fun q => by
              have h1 : kd d.1 = !K := (kk l d hd).1
              rw [q] at h1
              have h2 : kd h0 = K := hk.2
              rw [h2] at h1
              cases K <;> cases h1
            have n2 : d.1 ≠ o := fun q => by
              have hnd := S.nd
              have h1 : (ks.map (·.1))[l]? = some d.1 := by rw [List.getElem?_map, hd]; rfl
              have h2 : (ks.map (·.1))[i]? = some o := by rw [List.getElem?_map, hi]; rfl
              rw [q] at h1
              have l1 := (List.getElem?_eq_some_iff.mp h1).1
              have := (List.getElem?_inj (i := l) (j := i) l1 hnd).mp (by rw [h1, h2])
              omega
            rw [upm_ne n1, upm_ne n2]
            exact H.old l d (by omega) hd
          · have h1 := H.oldp l d w (by omega) hd hw
            have hkw : kd w = K := by
              have h2 := g.kd _ _ (M.fit _ _ hw)
              have h3 : kd d.1 = !K := (kk l d hd).1
              rw [h3] at h2
              exact (bnot_inj h2).symm
            have n2 : w ≠ o := fun q => by
              have h2 : kd o = !K := hk.1
              rw [q, h2] at hkw
              cases K <;> cases hkw
            have n1 : w ≠ h0 := fun q => by
              rw [q, e2] at h1
              have hq : c.1 = d.1 := Option.some.inj h1
              have hnd := S.nd
              have h2 : (ks.map (·.1))[l]? = some d.1 := by rw [List.getElem?_map, hd]; rfl
              have h3 : (ks.map (·.1))[j]? = some c.1 := by rw [List.getElem?_map, hc]; rfl
              have l1 := (List.getElem?_eq_some_iff.mp h2).1
              have := (List.getElem?_inj (i := l) (j := j) l1 hnd).mp (by rw [h2, h3, hq])
              omega
            rw [upm_ne n1, upm_ne n2]
            exact h1
        have hbg2 : ∀ b ∈ bg, upm (upm μ o h0) h0 o b = none := by
          intro b' hb'
          have n1 : b' ≠ h0 := fun q => hin (by rw [← q]; exact hb')
          have n2 : b' ≠ o := fun q => by
            have h1 := (hb b' hb').1
            have h2 : kd o = !K := hk.1
            rw [q, h2] at h1
            cases K <;> cases h1
          rw [upm_ne n1, upm_ne n2]
          exact hbg b' hb'
        obtain ⟨ν, b, f1, f2, f3, f4⟩ := ih j (upm (upm μ o h0) h0 o) c.1 c.2 (by omega) hcc H2 hbg2
        refine ⟨ν, b, f1, f2, f3, fun x => ?_⟩
        rw [f4 x]
        by_cases h1 : x = h0
        · subst h1
          rw [upm_eq, e2]; simp
        · rw [upm_ne h1]
          by_cases h2 : x = o
          · subst h2
            rw [upm_eq]; simp
          · rw [upm_ne h2]
            by_cases h3 : x = c.1
            · subst h3
              rw [e1]; simp
            · simp [h2, h3]
end

/-! ### what can be covered -/
def Mb (fit : Nat → Nat → Bool) (n : Nat) (P : Nat → Prop) : Prop := ∃ ν, Mat fit n ν ∧ ∀ i, P i → ν i ≠ none
section
variable {fit : Nat → Nat → Bool} {n : Nat} {kd : Nat → Bool} {μ : Nat → Option Nat} {bg : List Nat} {ks : Kl} {row : List Nat} {K : Bool}
theorem fm_len {α β : Type} {f : α → Option β} : ∀ {l : List α}, (∀ x ∈ l, f x ≠ none) → (l.filterMap f).length = l.length
  | [], _ => rfl
  | a :: l, h => by
    cases e : f a with
    | none => exact absurd e (h a List.mem_cons_self)
    | some b => rw [List.filterMap_cons, e, List.length_cons, List.length_cons, fm_len fun x hx => h x (List.mem_cons_of_mem _ hx)]
theorem fm_nd {α β : Type} {f : α → Option β} (inj : ∀ x y z, f x = some z → f y = some z → x = y) : ∀ {l : List α}, l.Nodup → (l.filterMap f).Nodup
  | [], _ => List.nodup_nil
  | a :: l, h => by
    rw [List.nodup_cons] at h
    have ih := fm_nd inj h.2
    rw [List.filterMap_cons]
    cases e : f a with
    | none => exact ih
    | some b =>
      rw [List.nodup_cons]
      refine ⟨fun hb => ?_, ih⟩
      obtain ⟨x, hx, ex⟩ := List.mem_filterMap.mp hb
      exact h.1 (by rw [inj a x b e ex]; exact hx)
theorem Mat.inj (M : Mat fit n μ) (x y z : Nat) (h : μ x = some z) (h' : μ y = some z) : x = y := by
  have a := M.sym _ _ h
  have b := M.sym _ _ h'
  rw [a] at b
  exact Option.some.inj b
/-- as many in the row as are begun and reached -/
theorem Sp0.count (S : Sp0 fit n μ bg ks row) (M : Mat fit n μ) (hb : ∀ b ∈ bg, μ b = none) (hbn : bg.Nodup) (hall : ∀ p ∈ ks, μ p.1 ≠ none) : row.Nodup ∧ row.length = bg.length + ks.length := by
  have e : ks.filterMap (fun p => μ p.1) = (ks.map (·.1)).filterMap μ := by rw [List.filterMap_map]; rfl
  rw [S.row_eq, e]
  refine ⟨List.nodup_append.mpr ⟨hbn, fm_nd M.inj S.nd, fun a ha b hb' q => ?_⟩, ?_⟩
  · subst q
    obtain ⟨c, _, hc⟩ := List.mem_filterMap.mp hb'
    have := M.sym _ _ hc
    rw [hb a ha] at this; cases this
  · rw [List.length_append, fm_len, List.length_map]
    intro x hx
    obtain ⟨p, hp, q⟩ := List.mem_map.mp hx
    rw [← q]; exact hall p hp
theorem hallT {ν : Nat → Option Nat} {n' : Nat} (N : Mat fit n' ν) {l L : List Nat} (hn : l.Nodup) (h : ∀ v ∈ l, ∃ o, ν v = some o ∧ o ∈ L) : l.length ≤ L.length := by
  have e : (l.filterMap ν).length = l.length := fm_len fun x hx => by
    obtain ⟨o, ho, _⟩ := h x hx
    rw [ho]; simp
  rw [← e]
  refine subset_len (fm_nd N.inj hn) fun x hx => ?_
  obtain ⟨v, hv, ev⟩ := List.mem_filterMap.mp hx
  obtain ⟨o, ho, hL⟩ := h v hv
  rw [ev] at ho
  cases ho
  exact hL
/-- only pairs whose one of the kind stands below y -/
def rstr (kd : Nat → Bool) (k : Bool) (y : Nat) (μ : Nat → Option Nat) : Nat → Option Nat := fun i => match μ i with
  | some j => if (if kd i = k then i else j) < y then some j else none
  | none => none
theorem rst_some {k : Bool} {y i j : Nat} : rstr kd k y μ i = some j ↔ μ i = some j ∧ (if kd i = k then i else j) < y := by
  unfold rstr
  cases e : μ i with
  | none => simp
  | some w =>
    dsimp only
    by_cases h : (if kd i = k then i else w) < y
    · rw [if_pos h]
      constructor
      · intro q; cases q; exact ⟨rfl, h⟩
      · rintro ⟨q, _⟩; exact q
    · rw [if_neg h]
      constructor
      · intro q; cases q
      · rintro ⟨q, h2⟩; cases q; exact absurd h2 h
theorem Mat.rst (M : Mat fit n μ) (g : Gph fit kd) (k : Bool) (y : Nat) : Mat fit n (rstr kd k y μ) where
  sym := fun i j h => by
    obtain ⟨h1, h2⟩ := rst_some.mp h
    refine rst_some.mpr ⟨M.sym _ _ h1, ?_⟩
    have h3 := g.kd _ _ (M.fit _ _ h1)
    by_cases hi : kd i = k
    · rw [if_pos hi] at h2
      have hj : kd j ≠ k := fun q => by rw [hi, q] at h3; cases k <;> cases h3
      rw [if_neg hj]; exact h2
    · rw [if_neg hi] at h2
      have hj : kd j = k := by cases k <;> cases z : kd i <;> cases z2 : kd j <;> simp_all
      rw [if_pos hj]; exact h2
  fit := fun i j h => M.fit _ _ (rst_some.mp h).1
  lt := fun i j h => M.lt _ _ (rst_some.mp h).1
theorem Mat.rst_none (y : Nat) (k : Bool) (h : μ y = none) : rstr kd k y μ y = none := by
  unfold rstr
  rw [h]
/-- none left out that could be in, of each kind from the first on -/
def Gr (fit : Nat → Nat → Bool) (kd : Nat → Bool) (n : Nat) (μ : Nat → Option Nat) : Prop := ∀ y, y < n → μ y = none → ¬ Mb fit n (fun i => i = y ∨ (kd i = kd y ∧ i < y ∧ μ i ≠ none))
/-- a free end: one begun is covered too -/
theorem cover_more (g : Gph fit kd) (M : Mat fit n μ) (S : Sp0 fit n μ bg ks row) (hb : ∀ b ∈ bg, kd b = K ∧ μ b = none ∧ b < n) {p : Nat × Nat} (hp : p ∈ ks) (hz : μ p.1 = none) : ∃ ν b, Mat fit n ν ∧ b ∈ bg ∧ ∀ x, (ν x ≠ none ↔ μ x ≠ none ∨ x = p.1 ∨ x = b) := by
  obtain ⟨i, hi⟩ := List.mem_iff_getElem?.mp hp
  obtain ⟨ν, b, _, h2, h3, h4⟩ := flip_ok g M S hb (i + 1) i μ p.1 p.2 (by omega) hi
    ⟨fun x y hx h => ⟨M.sym _ _ h, fun q => by
      rw [q] at h
      have := M.sym _ _ h
      rw [hz] at this; cases this⟩, fun x y _ h => ⟨M.fit _ _ h, M.lt _ _ h⟩, fun _ _ _ _ => rfl, fun j c w _ _ h => M.sym _ _ h⟩ (fun b h => (hb b h).2.1)
  exact ⟨ν, b, h2, h3, h4⟩
theorem Gr.closed (g : Gph fit kd) (M : Mat fit n μ) (G : Gr fit kd n μ) {y : Nat} (hy : y < n) (hn : μ y = none) (S : Sp0 fit n (rstr kd (kd y) y μ) bg ks row) (hbg : ∀ b ∈ bg, kd b = kd y ∧ b ≤ y ∧ μ b = none) {p : Nat × Nat} (hp : p ∈ ks) : rstr kd (kd y) y μ p.1 ≠ none := by
  intro hz
  have hb : ∀ b ∈ bg, kd b = kd y ∧ rstr kd (kd y) y μ b = none ∧ b < n := fun b h => by
    obtain ⟨h1, h2, h3⟩ := hbg b h
    refine ⟨h1, ?_, by omega⟩
    unfold rstr
    rw [h3]
  obtain ⟨ν, b, h1, h2, h3⟩ := cover_more g (M.rst g _ _) S hb hp hz
  obtain ⟨k1, k2, k3⟩ := hbg b h2
  refine G b (by omega) k3 ⟨ν, h1, fun i hi => ?_⟩
  rw [h3 i]
  rcases hi with hi | ⟨a1, a2, a3⟩
  · exact .inr (.inr hi)
  · left
    cases e : μ i with
    | none => exact absurd e a3
    | some j =>
      have : rstr kd (kd y) y μ i = some j := rst_some.mpr ⟨e, by rw [if_pos (a1.trans k1)]; omega⟩
      rw [this]; simp
/-- those in the row are begun or covered below y -/
theorem row_in (g : Gph fit kd) (M : Mat fit n μ) {k : Bool} {y : Nat} (S : Sp0 fit n (rstr kd k y μ) bg ks row) (hb : ∀ b ∈ bg, kd b = k) {v : Nat} (hv : v ∈ row) : v ∈ bg ∨ (kd v = k ∧ v < y ∧ μ v ≠ none) := by
  have hk := S.row_kind g (M.rst g k y) hb hv
  rcases S.mem hv with h | ⟨j, c, hc, e⟩
  · exact .inl h
  · right
    have h1 := (M.rst g k y).sym _ _ e
    obtain ⟨h2, h3⟩ := rst_some.mp h1
    rw [if_pos hk] at h3
    exact ⟨hk, h3, by rw [h2]; simp⟩
/-- no covering, where the row has more than its neighbours -/
theorem no_cover (g : Gph fit kd) (M : Mat fit n μ) {k : Bool} {y n' : Nat} (S : Rch fit n (rstr kd k y μ) bg ks row) (hb : ∀ b ∈ bg, kd b = k ∧ μ b = none) (hbn : bg.Nodup) (hall : ∀ p ∈ ks, rstr kd k y μ p.1 ≠ none) (L : List Nat)
    (hL : ∀ v ∈ row, ∀ o, o < n' → fit v o = true → o < n ∨ o ∈ L) (hlen : L.length < bg.length) {P : Nat → Prop} (hP : ∀ b ∈ bg, P b) (hP2 : ∀ i, kd i = k → i < y → μ i ≠ none → P i) : ¬ Mb fit n' P := by
  rintro ⟨ν, N, hc⟩
  have hcnt := S.toSp0.count (M.rst g k y) (fun b h => by unfold rstr; rw [(hb b h).2]) hbn hall
  have := hallT N (l := row) (L := ks.map (·.1) ++ L) hcnt.1 (fun v hv => by
    have hPv : P v := by
      rcases row_in g M S.toSp0 (fun b h => (hb b h).1) hv with h | ⟨h1, h2, h3⟩
      · exact hP v h
      · exact hP2 v h1 h2 h3
    cases e : ν v with
    | none => exact absurd e (hc v hPv)
    | some o =>
      refine ⟨o, rfl, ?_⟩
      have ho := N.lt _ _ (N.sym _ _ e)
      rcases hL v hv o ho (N.fit _ _ e) with h | h
      · exact List.mem_append_left _ (S.clo v hv o h (N.fit _ _ e))
      · exact List.mem_append_right _ h)
  rw [List.length_append, List.length_map, hcnt.2] at this
  omega
/-- ways lead back -/
theorem chain (g : Gph fit kd) (M : Mat fit n μ) {k : Bool} {y yy : Nat} {ks' : Kl} {row' bg' : List Nat} {n' : Nat} (hnn : n ≤ n') (hyy : yy < n') (S : Rch fit n' μ bg' ks' row') (T : Sp0 fit n (rstr kd k y μ) [yy] ks row) : ∀ (j : Nat) (c : Nat × Nat) (r : Nat), ks[j]? = some c → rstr kd k y μ c.1 = some r → r ∈ ks'.map (·.1) → yy ∈ ks'.map (·.1) := by
  intro j
  induction j using Nat.strongRecOn with
  | _ j ih =>
    intro c r hc he hr
    have h1 := M.sym _ _ (rst_some.mp he).1
    -- c.1 stands in the other row
    have hrow : c.1 ∈ row' := by
      rw [S.row_eq]
      refine List.mem_append_right _ (List.mem_filterMap.mpr ?_)
      obtain ⟨p, hp, q⟩ := List.mem_map.mp hr
      exact ⟨p, hp, by rw [q]; exact h1⟩
    have hok := T.ok c (List.mem_iff_getElem?.mpr ⟨j, hc⟩)
    have hp2 : c.2 < n' := by
      rcases T.par j c hc with h | ⟨j', c', _, _, e'⟩
      · have : c.2 = yy := by simpa using h
        rw [this]; exact hyy
      · exact Nat.lt_of_lt_of_le (M.lt _ _ (M.sym _ _ (rst_some.mp e').1)) hnn
    have hk := S.clo c.1 hrow c.2 hp2 (g.sym _ _ hok.2)
    rcases T.par j c hc with h | ⟨j', c', hj', hc', e'⟩
    · have : c.2 = yy := by simpa using h
      rw [← this]; exact hk
    · exact ih j' hj' c' c.2 hc' e' hk
end

/-! ### one vertex more -/
section
variable {fit : Nat → Nat → Bool} {n : Nat} {kd : Nat → Bool} {μ : Nat → Option Nat} {ks : Kl} {row : List Nat}
theorem Mat.wide (M : Mat fit n μ) {n' : Nat} (h : n ≤ n') : Mat fit n' μ := ⟨M.sym, M.fit, fun i j e => Nat.lt_of_lt_of_le (M.lt i j e) h⟩
theorem Mat.none_ge (M : Mat fit n μ) {x : Nat} (h : n ≤ x) : μ x = none := by
  cases e : μ x with
  | none => rfl
  | some j => exact absurd (M.lt _ _ e) (by omega)
/-- an old one of the new one's kind -/
theorem keep_same (g : Gph fit kd) (M : Mat fit n μ) (G : Gr fit kd n μ) {y : Nat} (hy : y < n) (hn : μ y = none) (hk : kd y = kd n) : ¬ Mb fit (n + 1) (fun i => i = y ∨ (kd i = kd y ∧ i < y ∧ μ i ≠ none)) := by
  obtain ⟨ks, row, S⟩ := reach_any fit n (rstr kd (kd y) y μ) [y]
  have hb : ∀ b ∈ [y], kd b = kd y ∧ b ≤ y ∧ μ b = none := fun b h => by
    have : b = y := by simpa using h
    subst this; exact ⟨rfl, Nat.le_refl _, hn⟩
  refine no_cover g M S (fun b h => ⟨(hb b h).1, (hb b h).2.2⟩) (by simp) (fun p hp => G.closed g M hy hn S.toSp0 hb hp) [] (fun v hv o ho hf => ?_) (by simp) (fun b h => ?_) (fun i h1 h2 h3 => .inr ⟨h1, h2, h3⟩)
  · left
    have hkv := S.row_kind g (M.rst g _ _) (fun b h => (hb b h).1) hv
    have h1 := g.kd _ _ hf
    rcases Nat.lt_or_ge o n with q | q
    · exact q
    · have : o = n := by omega
      subst this
      rw [hkv, hk] at h1
      cases z : kd o <;> rw [z] at h1 <;> cases h1
  · have : b = y := by simpa using h
    exact .inl this
/-- an old one of the other kind that is not reached -/
theorem keep_other (g : Gph fit kd) (M : Mat fit n μ) (G : Gr fit kd n μ) (S : Rch fit (n + 1) μ [n] ks row) {y : Nat} (hy : y < n) (hn : μ y = none) (hr : y ∉ ks.map (·.1)) : ¬ Mb fit (n + 1) (fun i => i = y ∨ (kd i = kd y ∧ i < y ∧ μ i ≠ none)) := by
  obtain ⟨ks2, row2, T⟩ := reach_any fit n (rstr kd (kd y) y μ) [y]
  have hb : ∀ b ∈ [y], kd b = kd y ∧ b ≤ y ∧ μ b = none := fun b h => by
    have : b = y := by simpa using h
    subst this; exact ⟨rfl, Nat.le_refl _, hn⟩
  refine no_cover g M T (fun b h => ⟨(hb b h).1, (hb b h).2.2⟩) (by simp) (fun p hp => G.closed g M hy hn T.toSp0 hb hp) [] (fun v hv o ho hf => ?_) (by simp) (fun b h => ?_) (fun i h1 h2 h3 => .inr ⟨h1, h2, h3⟩)
  · left
    rcases Nat.lt_or_ge o n with q | q
    · exact q
    · have : o = n := by omega
      subst this
      -- v is reached from o, so y is
      exfalso
      have ho0 : o ∈ row := by rw [S.row_eq]; simp
      have hv' : v < o + 1 := by
        rcases row_in g M T.toSp0 (fun b h => (hb b h).1) hv with h | ⟨_, h2, _⟩
        · have : v = y := by simpa using h
          omega
        · omega
      have hvk := S.clo o ho0 v hv' (g.sym _ _ hf)
      rcases T.mem hv with h | ⟨j, c, hc, e⟩
      · have : v = y := by simpa using h
        rw [this] at hvk
        exact hr hvk
      · exact hr (chain g M (Nat.le_succ _) (by omega) S T.toSp0 j c v hc e hvk)
  · have : b = y := by simpa using h
    exact .inl this
/-- the new one finds no free end -/
theorem gr_fail (g : Gph fit kd) (M : Mat fit n μ) (G : Gr fit kd n μ) (S : Rch fit (n + 1) μ [n] ks row) (hall : ∀ p ∈ ks, μ p.1 ≠ none) : Gr fit kd (n + 1) μ := by
  intro y hy hn
  by_cases hyn : y = n
  · subst hyn
    have Mn := M.wide (Nat.le_succ y)
    rintro ⟨ν, N, hc⟩
    have hb : ∀ b ∈ [y], kd b = kd y ∧ μ b = none ∧ b < y + 1 := fun b h => by
      have : b = y := by simpa using h
      subst this; exact ⟨rfl, hn, by omega⟩
    have hcnt := S.toSp0.count Mn (fun b h => (hb b h).2.1) (by simp) hall
    have := hallT N (l := row) (L := ks.map (·.1)) hcnt.1 (fun v hv => by
      have hk := S.row_kind g Mn (fun b h => (hb b h).1) hv
      have hPv : v = y ∨ (kd v = kd y ∧ v < y ∧ μ v ≠ none) := by
        rcases S.mem hv with h | ⟨j, c, hc', e⟩
        · left; simpa using h
        · right
          have h1 := M.sym _ _ e
          exact ⟨hk, M.lt _ _ h1, by rw [h1]; simp⟩
      cases e : ν v with
      | none => exact absurd e (hc v hPv)
      | some o => exact ⟨o, rfl, S.clo v hv o (N.lt _ _ (N.sym _ _ e)) (N.fit _ _ e)⟩)
    rw [List.length_map, hcnt.2, List.length_singleton] at this
    omega
  · have hy' : y < n := by omega
    by_cases hk : kd y = kd n
    · exact keep_same g M G hy' hn hk
    · exact keep_other g M G S hy' hn fun h => by
        obtain ⟨p, hp, e⟩ := List.mem_map.mp h
        exact hall p hp (by rw [e]; exact hn)
/-- the new one is covered, and with it the first free end -/
theorem gr_done (g : Gph fit kd) (M : Mat fit n μ) (G : Gr fit kd n μ) (S : Rch fit (n + 1) μ [n] ks row) {x0 : Nat} (hx : x0 ∈ ks.map (·.1)) (hx0 : μ x0 = none) (hmin : ∀ x ∈ ks.map (·.1), μ x = none → x0 ≤ x) {ν : Nat → Option Nat} (hν : ∀ x, (ν x ≠ none ↔ μ x ≠ none ∨ x = x0 ∨ x = n)) : Gr fit kd (n + 1) ν := by
  have Mn := M.wide (Nat.le_succ n)
  have hnn : μ n = none := M.none_ge (Nat.le_refl _)
  obtain ⟨p0, hp0, ep0⟩ := List.mem_map.mp hx
  obtain ⟨i0, hi0⟩ := List.mem_iff_getElem?.mp hp0
  have hkx : kd x0 = !kd n := by
    have hbn : ∀ b ∈ [n], kd b = kd n := fun b h => by
      have e : b = n := by simpa using h
      rw [e]
    have := (S.toSp0.kinds g Mn (K := kd n) hbn i0 p0 hi0).1
    rw [← ep0]; exact this
  have hx0n : x0 < n := by
    have h1 := (S.ok p0 hp0).1
    rw [ep0] at h1
    rcases Nat.lt_or_ge x0 n with q | q
    · exact q
    · have : x0 = n := by omega
      rw [this] at hkx
      cases z : kd n <;> rw [z] at hkx <;> cases hkx
  intro y hy hyν
  have hyn : y ≠ n := fun q => by
    have := (hν y).mpr (.inr (.inr q))
    exact this hyν
  have hyx : y ≠ x0 := fun q => by
    have := (hν y).mpr (.inr (.inl q))
    exact this hyν
  have hyμ : μ y = none := by
    cases e : μ y with
    | none => rfl
    | some j => exact absurd hyν ((hν y).mpr (.inl (by rw [e]; simp)))
  have hy' : y < n := by omega
  by_cases hk : kd y = kd n
  · -- its own kind: nothing new below it
    rintro ⟨ν2, N, hc⟩
    refine keep_same g M G hy' hyμ hk ⟨ν2, N, fun i hi => hc i ?_⟩
    rcases hi with h | ⟨h1, h2, h3⟩
    · exact .inl h
    · exact .inr ⟨h1, h2, (hν i).mpr (.inl h3)⟩
  · rcases Nat.lt_or_ge y x0 with hlt | hge
    · rintro ⟨ν2, N, hc⟩
      refine keep_other g M G S hy' hyμ (fun h => ?_) ⟨ν2, N, fun i hi => hc i ?_⟩
      · have := hmin y h hyμ
        omega
      · rcases hi with h | ⟨h1, h2, h3⟩
        · exact .inl h
        · exact .inr ⟨h1, h2, (hν i).mpr (.inl h3)⟩
    · -- both are begun
      have hky : kd y = kd x0 := by
        rw [hkx]
        cases z : kd y <;> cases z2 : kd n <;> simp_all
      obtain ⟨ks2, row2, T⟩ := reach_any fit n (rstr kd (kd y) y μ) [x0, y]
      have hb : ∀ b ∈ [x0, y], kd b = kd y ∧ b ≤ y ∧ μ b = none := fun b h => by
        rcases List.mem_cons.mp h with e | h
        · subst e; exact ⟨hky.symm, hge, hx0⟩
        · have : b = y := by simpa using h
          subst this; exact ⟨rfl, Nat.le_refl _, hyμ⟩
      refine no_cover g M T (fun b h => ⟨(hb b h).1, (hb b h).2.2⟩) ?_ (fun p hp => G.closed g M hy' hyμ T.toSp0 hb hp) [n] (fun v hv o ho hf => ?_) (by simp) (fun b h => ?_) (fun i h1 h2 h3 => .inr ⟨h1, h2, (hν i).mpr (.inl h3)⟩)
      · rw [List.nodup_cons]
        exact ⟨by simpa using fun q => hyx q.symm, by simp⟩
      · rcases Nat.lt_or_ge o n with q | q
        · exact .inl q
        · right
          have : o = n := by omega
          rw [this]; simp
      · rcases List.mem_cons.mp h with e | h
        · subst e
          exact .inr ⟨hky.symm, by omega, (hν b).mpr (.inr (.inl rfl))⟩
        · have : b = y := by simpa using h
          exact .inl this
/-- no way from an open one to an open one -/
theorem Gr.noaug (g : Gph fit kd) (M : Mat fit n μ) (G : Gr fit kd n μ) {bg : List Nat} {K : Bool} (hb : ∀ b ∈ bg, kd b = K ∧ μ b = none ∧ b < n) (S : Sp0 fit n μ bg ks row) {p : Nat × Nat} (hp : p ∈ ks) : μ p.1 ≠ none := by
  intro hz
  obtain ⟨ν, b, h1, h2, h3⟩ := cover_more g M S hb hp hz
  obtain ⟨k1, k2, k3⟩ := hb b h2
  exact G b k3 k2 ⟨ν, h1, fun i hi => (h3 i).mpr (by
    rcases hi with h | ⟨_, _, h⟩
    · exact .inr (.inr h)
    · exact .inl h)⟩
theorem gr_start (fit : Nat → Nat → Bool) (kd : Nat → Bool) : Gr fit kd 0 (fun _ => none) := fun y h => by omega
theorem mat_start (fit : Nat → Nat → Bool) : Mat fit 0 (fun _ => none) := ⟨fun i j h => (nomatch h), fun i j h => (nomatch h), fun i j h => (nomatch h)⟩
end

/-! ### a search that stops at the first free one -/
def ledV (fit : Nat → Nat → Bool) (μ : Nat → Option Nat) (v : Nat) : List Nat → Kl → List Nat → Sum (Kl × Nat) (Kl × List Nat)
  | [], ks, row => .inr (ks, row)
  | o :: r, ks, row => if hasK ks o = true then ledV fit μ v r ks row else if fit v o = true then (match μ o with
    | none => .inl (ks ++ [(o, v)], o)
    | some w => ledV fit μ v r (ks ++ [(o, v)]) (row ++ [w])) else ledV fit μ v r ks row
def ledB (fit : Nat → Nat → Bool) (n : Nat) (μ : Nat → Option Nat) : Nat → Nat → Kl → List Nat → Option (Sum (Kl × Nat) (Kl × List Nat))
  | 0, _, _, _ => none
  | f + 1, k, ks, row => match row[k]? with
    | none => some (.inr (ks, row))
    | some v => match ledV fit μ v (List.range n) ks row with
      | .inl r => some (.inl r)
      | .inr (ks', row') => ledB fit n μ f (k + 1) ks' row'
section
variable {fit : Nat → Nat → Bool} {n : Nat} {kd : Nat → Bool} {μ : Nat → Option Nat} {bg : List Nat} {ks : Kl} {row : List Nat}
theorem ledV_ok {v : Nat} : ∀ {l : List Nat} {ks : Kl} {row : List Nat}, Sp0 fit n μ bg ks row → v ∈ row → (∀ o ∈ l, o < n) → (∀ p ∈ ks, μ p.1 ≠ none) →
    match ledV fit μ v l ks row with
    | .inl (ks', o) => ∃ (row' : List Nat) (i v' : Nat), Sp0 fit n μ bg ks' row' ∧ ks'[i]? = some (o, v') ∧ μ o = none
    | .inr (ks', row') => Sp0 fit n μ bg ks' row' ∧ (∀ p ∈ ks', μ p.1 ≠ none) ∧ (∃ t, ks' = ks ++ t) ∧ (∃ t, row' = row ++ t) ∧ ∀ o ∈ l, fit v o = true → o ∈ ks'.map (·.1)
  | [], ks, row, S, _, _, hm => ⟨S, hm, ⟨[], by simp⟩, ⟨[], by simp⟩, fun o h => by cases h⟩
  | o :: l, ks, row, S, hv, hl, hm => by
    have hl' : ∀ o ∈ l, o < n := fun x hx => hl x (List.mem_cons_of_mem _ hx)
    unfold ledV
    by_cases h : hasK ks o = true
    · rw [if_pos h]
      have ih := ledV_ok (l := l) S hv hl' hm
      cases e : ledV fit μ v l ks row with
      | inl r => rw [e] at ih; exact ih
      | inr r =>
        rw [e] at ih
        obtain ⟨a, b, ⟨t, et⟩, d, f⟩ := ih
        refine ⟨a, b, ⟨t, et⟩, d, fun x hx hf => ?_⟩
        rcases List.mem_cons.mp hx with q | hx
        · rw [q, et, List.map_append]
          exact List.mem_append_left _ (hasK_iff.mp h)
        · exact f x hx hf
    · rw [if_neg h]
      have hfl : hasK ks o = false := by
        cases z : hasK ks o with
        | false => rfl
        | true => exact absurd z h
      by_cases hf : fit v o = true
      · rw [if_pos hf]
        have S2 := S.more hv (hl o List.mem_cons_self) hf hfl
        cases em : μ o with
        | none =>
          rw [em] at S2
          exact ⟨row, ks.length, v, S2, by simp, em⟩
        | some w =>
          rw [em] at S2
          dsimp only at S2 ⊢
          have ih := ledV_ok (l := l) S2 (List.mem_append_left _ hv) hl' (fun p hp => by
            rcases List.mem_append.mp hp with hp | hp
            · exact hm p hp
            · have : p = (o, v) := by simpa using hp
              rw [this]
              show μ o ≠ none
              rw [em]; simp)
          cases e : ledV fit μ v l (ks ++ [(o, v)]) (row ++ [w]) with
          | inl r => rw [e] at ih; exact ih
          | inr r =>
            rw [e] at ih
            obtain ⟨a, b, ⟨t, et⟩, ⟨t', et'⟩, f⟩ := ih
            refine ⟨a, b, ⟨(o, v) :: t, by rw [et]; simp⟩, ⟨w :: t', by rw [et']; simp⟩, fun x hx hf => ?_⟩
            rcases List.mem_cons.mp hx with q | hx
            · rw [q, et]; simp
            · exact f x hx hf
      · rw [if_neg hf]
        have ih := ledV_ok (l := l) S hv hl' hm
        cases e : ledV fit μ v l ks row with
        | inl r => rw [e] at ih; exact ih
        | inr r =>
          rw [e] at ih
          obtain ⟨a, b, c, d, f⟩ := ih
          refine ⟨a, b, c, d, fun x hx hf' => ?_⟩
          rcases List.mem_cons.mp hx with q | hx
          · rw [q] at hf'; exact absurd hf' hf
          · exact f x hx hf'
theorem ledB_ok : ∀ (f k : Nat) (ks : Kl) (row : List Nat), Sp0 fit n μ bg ks row → (∀ p ∈ ks, μ p.1 ≠ none) → (∀ j v, j < k → row[j]? = some v → ∀ o, o < n → fit v o = true → o ∈ ks.map (·.1)) → k ≤ row.length → bg.length + n < f + k →
    (∃ (ks' : Kl) (o : Nat) (row' : List Nat) (i v' : Nat), ledB fit n μ f k ks row = some (.inl (ks', o)) ∧ Sp0 fit n μ bg ks' row' ∧ ks'[i]? = some (o, v') ∧ μ o = none) ∨
    (∃ ks' row', ledB fit n μ f k ks row = some (.inr (ks', row')) ∧ Rch fit n μ bg ks' row' ∧ ∀ p ∈ ks', μ p.1 ≠ none)
  | 0, k, ks, row, S, _, _, hk, hf => by
    have := S.len.2
    omega
  | f + 1, k, ks, row, S, hm, hc, hk, hf => by
    unfold ledB
    cases e : row[k]? with
    | none =>
      refine .inr ⟨ks, row, rfl, ⟨S, fun v hv => ?_⟩, hm⟩
      obtain ⟨j, hj⟩ := List.mem_iff_getElem?.mp hv
      have h1 := (List.getElem?_eq_some_iff.mp hj).1
      have h2 := List.getElem?_eq_none_iff.mp e
      exact hc j v (by omega) hj
    | some v =>
      dsimp only
      have hv : v ∈ row := List.mem_iff_getElem?.mpr ⟨k, e⟩
      have hk' := (List.getElem?_eq_some_iff.mp e).1
      have h := ledV_ok (l := List.range n) S hv (fun o ho => List.mem_range.mp ho) hm
      cases z : ledV fit μ v (List.range n) ks row with
      | inl r =>
        rw [z] at h
        obtain ⟨row', i, v', a, b, c⟩ := h
        exact .inl ⟨r.1, r.2, row', i, v', rfl, a, b, c⟩
      | inr r =>
        rw [z] at h
        obtain ⟨a, b, ⟨t1, e1⟩, ⟨t2, e2⟩, d⟩ := h
        refine ledB_ok f (k + 1) _ _ a b (fun j w hj hw o ho hfo => ?_) (by rw [e2, List.length_append]; omega) (by omega)
        by_cases hjk : j = k
        · subst hjk
          rw [e2, List.getElem?_append_left hk', e] at hw
          have : v = w := by simpa using hw
          subst this
          exact d o (List.mem_range.mpr ho) hfo
        · rw [e2, List.getElem?_append_left (by omega)] at hw
          rw [e1, List.map_append]
          exact List.mem_append_left _ (hc j w (by omega) hw o ho hfo)
theorem led_no {P : Nat → Prop} (M : Mat fit n μ) (S : Rch fit n μ bg ks row) (hb : ∀ b ∈ bg, μ b = none) (hbn : bg.Nodup) (hne : 0 < bg.length) (hall : ∀ p ∈ ks, μ p.1 ≠ none) (hP : ∀ v ∈ row, P v) : ¬ Mb fit n P := by
  rintro ⟨ν, N, c⟩
  obtain ⟨nd, len⟩ := S.toSp0.count M hb hbn hall
  have h := hallT N (l := row) (L := ks.map (·.1)) nd (fun v hv => by
    have := c v (hP v hv)
    cases e : ν v with
    | none => exact absurd e this
    | some o => exact ⟨o, rfl, S.clo v hv o (N.lt _ _ (N.sym _ _ e)) (N.fit _ _ e)⟩)
  rw [List.length_map] at h
  omega
theorem gr_yes (G : Gr fit kd n μ) {y : Nat} (hy : y < n) (h : Mb fit n (fun i => i = y ∨ (kd i = kd y ∧ i < y ∧ μ i ≠ none))) : μ y ≠ none := fun e => G y hy e h
theorem gr_no (M : Mat fit n μ) {y : Nat} (h : ¬ Mb fit n (fun i => i = y ∨ (kd i = kd y ∧ i < y ∧ μ i ≠ none))) : μ y = none := by
  cases e : μ y with
  | none => rfl
  | some z =>
    refine absurd ⟨μ, M, fun i hi => ?_⟩ h
    rcases hi with hi | hi
    · rw [hi, e]; simp
    · exact hi.2.2
/-- led's law: the dict, by what it holds of one kind -/
structure Led (fit : Nat → Nat → Bool) (kd : Nat → Bool) (n : Nat) (μ : Nat → Option Nat) (K : Bool) (y : Nat) (lm : Nat → Option Nat) : Prop where
  mat : Mat fit n lm
  iff : ∀ x, kd x = K → (lm x ≠ none ↔ x < y ∧ μ x ≠ none)
theorem led_start {K : Bool} : Led fit kd n μ K 0 (fun _ => none) := ⟨⟨fun i j h => (nomatch h), fun i j h => (nomatch h), fun i j h => (nomatch h)⟩, fun x _ => ⟨fun h => absurd rfl h, fun h => absurd h.1 (Nat.not_lt_zero _)⟩⟩
theorem led_skip {K : Bool} {y : Nat} {lm : Nat → Option Nat} (L : Led fit kd n μ K y lm) (h : kd y ≠ K) : Led fit kd n μ K (y + 1) lm := ⟨L.mat, fun x hx => by
  rw [L.iff x hx]
  have : x ≠ y := fun q => h (by rw [← q]; exact hx)
  constructor
  · rintro ⟨a, b⟩; exact ⟨by omega, b⟩
  · rintro ⟨a, b⟩; exact ⟨by omega, b⟩⟩
theorem led_found (g : Gph fit kd) (G : Gr fit kd n μ) {y o i v' f : Nat} {lm : Nat → Option Nat} (L : Led fit kd n μ (kd y) y lm) (hy : y < n) (S : Sp0 fit n lm [y] ks row) (hi : ks[i]? = some (o, v')) (ho : lm o = none) (hf : i < f) :
    ∃ ν, flipG ks [y] f lm o = some ν ∧ Led fit kd n μ (kd y) (y + 1) ν ∧ μ y ≠ none := by
  have hyn : lm y = none := by
    cases e : lm y with
    | none => rfl
    | some z =>
      have := ((L.iff y rfl).mp (by rw [e]; simp)).1
      omega
  have hb : ∀ b ∈ [y], kd b = kd y ∧ lm b = none ∧ b < n := fun b hb => by
    have : b = y := by simpa using hb
    subst this
    exact ⟨rfl, hyn, hy⟩
  obtain ⟨ν, c, h1, h2, h3, h4⟩ := flip_ok g L.mat S hb f i lm o v' hf hi
    ⟨fun x y hx h => ⟨L.mat.sym _ _ h, fun q => by
      rw [q] at h
      have := L.mat.sym _ _ h
      rw [ho] at this; cases this⟩, fun x y _ h => ⟨L.mat.fit _ _ h, L.mat.lt _ _ h⟩, fun _ _ _ _ => rfl, fun j c w _ _ h => L.mat.sym _ _ h⟩ (fun b h => (hb b h).2.1)
  have hc : c = y := by simpa using h3
  subst hc
  have hko := (S.kinds g L.mat (fun b h => (hb b h).1) i _ hi).1
  have key : ∀ x, kd x = kd c → (ν x ≠ none ↔ (x < c ∧ μ x ≠ none) ∨ x = c) := fun x hx => by
    rw [h4 x, L.iff x hx]
    have : x ≠ o := fun q => by
      have hko : kd o = !kd c := hko
      rw [← q, hx] at hko
      generalize kd c = b at hko
      cases b <;> cases hko
    constructor
    · rintro (h | h | h)
      · exact .inl h
      · exact absurd h this
      · exact .inr h
    · rintro (h | h)
      · exact .inl h
      · exact .inr (.inr h)
  have hyes := gr_yes G hy ⟨ν, h2, fun i hi => by
    rcases hi with hi | ⟨a, b, c⟩
    · rw [hi]; exact (key c rfl).mpr (.inr rfl)
    · exact (key i a).mpr (.inl ⟨b, c⟩)⟩
  refine ⟨ν, h1, ⟨h2, fun x hx => ?_⟩, hyes⟩
  rw [key x hx]
  constructor
  · rintro (⟨a, b⟩ | h)
    · exact ⟨by omega, b⟩
    · subst h; exact ⟨by omega, hyes⟩
  · rintro ⟨a, b⟩
    by_cases q : x = c
    · exact .inr q
    · exact .inl ⟨by omega, b⟩
theorem led_none (g : Gph fit kd) (M : Mat fit n μ) {y : Nat} {lm : Nat → Option Nat} (L : Led fit kd n μ (kd y) y lm) (hy : y < n) (S : Rch fit n lm [y] ks row) (hall : ∀ p ∈ ks, lm p.1 ≠ none) :
    Led fit kd n μ (kd y) (y + 1) lm ∧ μ y = none := by
  have hyn : lm y = none := by
    cases e : lm y with
    | none => rfl
    | some z =>
      have := ((L.iff y rfl).mp (by rw [e]; simp)).1
      omega
  have hno := led_no (P := fun i => i = y ∨ (kd i = kd y ∧ i < y ∧ μ i ≠ none)) L.mat S (fun b hb => by
      have : b = y := by simpa using hb
      rw [this]; exact hyn) (by simp) (by simp) hall (fun v hv => by
      have hk := S.toSp0.row_kind g L.mat (K := kd y) (fun b hb => by
        have : b = y := by simpa using hb
        rw [this]) hv
      rcases S.toSp0.mem hv with h | ⟨j, c, hc, e⟩
      · exact .inl (by simpa using h)
      · have := (L.iff v hk).mp (by rw [L.mat.sym _ _ e]; simp)
        exact .inr ⟨hk, this.1, this.2⟩)
  have hz := gr_no M hno
  refine ⟨⟨L.mat, fun x hx => ?_⟩, hz⟩
  rw [L.iff x hx]
  constructor
  · rintro ⟨a, b⟩; exact ⟨by omega, b⟩
  · rintro ⟨a, b⟩
    have : x ≠ y := fun q => by rw [q] at b; exact b hz
    exact ⟨by omega, b⟩
end

/-! ### as many pairs as can be -/
section
variable {fit : Nat → Nat → Bool} {n : Nat} {kd : Nat → Bool} {μ ν : Nat → Option Nat} {bg : List Nat} {ks : Kl} {row : List Nat} {K : Bool}
theorem Mb.mono {P Q : Nat → Prop} (h : Mb fit n Q) (hs : ∀ i, P i → Q i) : Mb fit n P := by
  obtain ⟨ν, a, b⟩ := h
  exact ⟨ν, a, fun i hi => b i (hs i hi)⟩
/-- nobody who is left out could come in -/
def Max1 (fit : Nat → Nat → Bool) (kd : Nat → Bool) (n : Nat) (μ : Nat → Option Nat) : Prop := ∀ y, y < n → μ y = none → ¬ Mb fit n (fun i => i = y ∨ (kd i = kd y ∧ μ i ≠ none))
theorem Gr.max1 (G : Gr fit kd n μ) : Max1 fit kd n μ := fun y hy hn hb => G y hy hn (hb.mono fun i hi => by
  rcases hi with h | ⟨h1, _, h3⟩
  · exact .inl h
  · exact .inr ⟨h1, h3⟩)
theorem Max1.noaug (g : Gph fit kd) (M : Mat fit n μ) (X : Max1 fit kd n μ) (hb : ∀ b ∈ bg, kd b = K ∧ μ b = none ∧ b < n) (S : Sp0 fit n μ bg ks row) {p : Nat × Nat} (hp : p ∈ ks) : μ p.1 ≠ none := by
  intro hz
  obtain ⟨ν, b, h1, h2, h3⟩ := cover_more g M S hb hp hz
  obtain ⟨k1, k2, k3⟩ := hb b h2
  exact X b k3 k2 ⟨ν, h1, fun i hi => (h3 i).mpr (by
    rcases hi with h | ⟨_, h⟩
    · exact .inr (.inr h)
    · exact .inl h)⟩
def freeK (kd : Nat → Bool) (n : Nat) (K : Bool) (μ : Nat → Option Nat) : List Nat := (List.range n).filter fun i => decide (kd i = K) && (μ i).isNone
theorem freeK_iff {i : Nat} : i ∈ freeK kd n K μ ↔ i < n ∧ kd i = K ∧ μ i = none := by
  unfold freeK
  rw [List.mem_filter, List.mem_range, Bool.and_eq_true, decide_eq_true_eq, Option.isNone_iff_eq_none]
theorem freeK_nd : (freeK kd n K μ).Nodup := List.Pairwise.filter _ List.nodup_range
theorem part_len {α : Type} (p : α → Bool) : ∀ l : List α, (l.filter p).length + (l.filter fun x => !p x).length = l.length
  | [] => rfl
  | a :: l => by
    have ih := part_len p l
    rw [List.filter_cons, List.filter_cons, List.length_cons]
    cases p a
    · simp; omega
    · simp; omega
theorem free_le (g : Gph fit kd) (M : Mat fit n μ) (X : Max1 fit kd n μ) (N : Mat fit n ν) (K : Bool) : (freeK kd n K μ).length ≤ (freeK kd n K ν).length := by
  have hb : ∀ b ∈ freeK kd n K μ, kd b = K ∧ μ b = none ∧ b < n := fun b h => by
    obtain ⟨h1, h2, h3⟩ := freeK_iff.mp h
    exact ⟨h2, h3, h1⟩
  obtain ⟨ks, row, S⟩ := reach_any fit n μ (freeK kd n K μ)
  have hall : ∀ p ∈ ks, μ p.1 ≠ none := fun p hp => X.noaug g M hb S.toSp0 hp
  obtain ⟨rn, rl⟩ := S.toSp0.count M (fun b h => (hb b h).2.1) freeK_nd hall
  have hp := part_len (fun v => (ν v).isSome) row
  have hA := hallT N (l := row.filter fun v => (ν v).isSome) (L := ks.map (·.1)) (rn.filter _) (fun v hv => by
    obtain ⟨hv, hs⟩ := List.mem_filter.mp hv
    cases e : ν v with
    | none => rw [e] at hs; cases hs
    | some o => exact ⟨o, rfl, S.clo v hv o (N.lt _ _ (N.sym _ _ e)) (N.fit _ _ e)⟩)
  have hB := subset_len (l := row.filter fun v => !(ν v).isSome) (l' := freeK kd n K ν) (rn.filter _) (fun v hv => by
    obtain ⟨hv, hs⟩ := List.mem_filter.mp hv
    refine freeK_iff.mpr ⟨?_, S.toSp0.row_kind g M (fun b h => (hb b h).1) hv, ?_⟩
    · rcases S.toSp0.mem hv with h | ⟨j, c, hc, e⟩
      · exact (hb v h).2.2
      · exact M.lt _ _ (M.sym _ _ e)
    · cases e : ν v with
      | none => rfl
      | some o => rw [e] at hs; cases hs)
  rw [List.length_map] at hA
  omega
def freeA (n : Nat) (μ : Nat → Option Nat) : List Nat := (List.range n).filter fun i => (μ i).isNone
theorem freeA_iff {i : Nat} : i ∈ freeA n μ ↔ i < n ∧ μ i = none := by
  unfold freeA
  rw [List.mem_filter, List.mem_range, Option.isNone_iff_eq_none]
theorem freeA_len (kd : Nat → Bool) : (freeA n μ).length = (freeK kd n true μ).length + (freeK kd n false μ).length := by
  have h := part_len (fun i => decide (kd i = true)) (freeA n μ)
  have e1 : (freeA n μ).filter (fun i => decide (kd i = true)) = freeK kd n true μ := by
    unfold freeA freeK
    rw [List.filter_filter]
  have e2 : (freeA n μ).filter (fun i => !decide (kd i = true)) = freeK kd n false μ := by
    unfold freeA freeK
    rw [List.filter_filter]
    congr 1
    funext i
    cases kd i <;> rfl
  rw [e1, e2] at h
  omega
theorem free_min (g : Gph fit kd) (M : Mat fit n μ) (X : Max1 fit kd n μ) (N : Mat fit n ν) : (freeA n μ).length ≤ (freeA n ν).length := by
  rw [freeA_len kd, freeA_len kd]
  have h1 := free_le g M X N true
  have h2 := free_le g M X N false
  omega
theorem free_same (g : Gph fit kd) (M : Mat fit n μ) (X : Max1 fit kd n μ) (N : Mat fit n ν) (Y : Max1 fit kd n ν) : (freeA n μ).length = (freeA n ν).length :=
  Nat.le_antisymm (free_min g M X N) (free_min g N Y M)
/-- the dict's count -/
theorem len_free {m : Kl} (hd : (m.map (·.1)).Nodup) (M : Mat fit n (getA m)) (hk : ∀ x, getA m x ≠ none ↔ x ∈ m.map (·.1)) : m.length + (freeA n (getA m)).length = n := by
  have h := part_len (fun i => (getA m i).isNone) (List.range n)
  have hp : ((List.range n).filter fun i => !(getA m i).isNone).Perm (m.map (·.1)) := by
    refine (List.perm_ext_iff_of_nodup (List.Pairwise.filter _ List.nodup_range) hd).mpr fun x => ?_
    rw [List.mem_filter, List.mem_range, ← hk]
    cases e : getA m x with
    | none => simp
    | some w => simp [M.lt _ _ e]
  have hl := hp.length_eq
  rw [List.length_map] at hl
  rw [List.length_range] at h
  unfold freeA
  omega
/-! a greedy way in any order -/
theorem led_more (g : Gph fit kd) (M : Mat fit n μ) {y o i v' f : Nat} (hy : y < n) (hyn : μ y = none) (S : Sp0 fit n μ [y] ks row) (hi : ks[i]? = some (o, v')) (ho : μ o = none) (hf : i < f) :
    ∃ ν, flipG ks [y] f μ o = some ν ∧ Mat fit n ν ∧ ∀ x, (ν x ≠ none ↔ μ x ≠ none ∨ x = o ∨ x = y) := by
  have hb : ∀ b ∈ [y], kd b = kd y ∧ μ b = none ∧ b < n := fun b hb => by
    have : b = y := by simpa using hb
    subst this
    exact ⟨rfl, hyn, hy⟩
  obtain ⟨ν, c, h1, h2, h3, h4⟩ := flip_ok g M S hb f i μ o v' hf hi
    ⟨fun x y hx h => ⟨M.sym _ _ h, fun q => by
      rw [q] at h
      have := M.sym _ _ h
      rw [ho] at this; cases this⟩, fun x y _ h => ⟨M.fit _ _ h, M.lt _ _ h⟩, fun _ _ _ _ => rfl, fun j c w _ _ h => M.sym _ _ h⟩ (fun b h => (hb b h).2.1)
  have hc : c = y := by simpa using h3
  subst hc
  exact ⟨ν, h1, h2, h4⟩
theorem led_fail (g : Gph fit kd) (M : Mat fit n μ) {y : Nat} (hy : y < n) (hyn : μ y = none) (S : Rch fit n μ [y] ks row) (hall : ∀ p ∈ ks, μ p.1 ≠ none) : ¬ Mb fit n (fun i => i = y ∨ (kd i = kd y ∧ μ i ≠ none)) :=
  led_no M S (fun b hb => by
    have : b = y := by simpa using hb
    rw [this]; exact hyn) (by simp) (by simp) hall fun v hv => by
      have hk := S.toSp0.row_kind g M (K := kd y) (fun b hb => by
        have : b = y := by simpa using hb
        rw [this]) hv
      rcases S.toSp0.mem hv with h | ⟨j, c, hc, e⟩
      · exact .inl (by simpa using h)
      · exact .inr ⟨hk, by rw [M.sym _ _ e]; simp⟩
/-- who is done: in a pair, or could not come in -/
def Done (fit : Nat → Nat → Bool) (kd : Nat → Bool) (n : Nat) (μ : Nat → Option Nat) (y : Nat) : Prop := μ y ≠ none ∨ ¬ Mb fit n (fun i => i = y ∨ (kd i = kd y ∧ μ i ≠ none))
theorem Done.more {y : Nat} (h : Done fit kd n μ y) (hs : ∀ x, μ x ≠ none → ν x ≠ none) : Done fit kd n ν y := by
  rcases h with h | h
  · exact .inl (hs y h)
  · exact .inr fun hb => h (hb.mono fun i hi => by
      rcases hi with q | ⟨q1, q2⟩
      · exact .inl q
      · exact .inr ⟨q1, hs i q2⟩)
theorem max1_of (h : ∀ y, y < n → Done fit kd n μ y) : Max1 fit kd n μ := fun y hy hn => by
  rcases h y hy with q | q
  · exact absurd hn q
  · exact q
end

/-! ### the table over who is left -/
abbrev Tab := List (List Nat × Nat)
def tget : Tab → List Nat → Option Nat
  | [], _ => none
  | p :: r, k => if p.1 = k then some p.2 else tget r k
def tput (B : Tab) (k : List Nat) (v : Nat) : Tab := if B.any (fun p => decide (p.1 = k)) = true then B.map (fun p => if p.1 = k then (p.1, v) else p) else B ++ [(k, v)]
def bump (B : Tab) (k : List Nat) (v : Nat) : Tab := tput B k (max ((tget B k).getD 0) v)
section
variable {fit : Nat → Nat → Bool} {kd : Nat → Bool} {a : Nat}
structure TabOk (fit : Nat → Nat → Bool) (a : Nat) (B : Tab) : Prop where
  nd : (B.map (·.1)).Nodup
  ok : ∀ p ∈ B, 2 * p.2 + p.1.length = a ∧ ∃ μ, Mat fit a μ ∧ freeA a μ = p.1
theorem tget_none {B : Tab} {k : List Nat} : tget B k = none ↔ k ∉ B.map (·.1) := by
  induction B with
  | nil => simp [tget]
  | cons p r ih =>
    show (if p.1 = k then some p.2 else tget r k) = none ↔ _
    by_cases e : p.1 = k
    · rw [if_pos e]; simp [e]
    · rw [if_neg e, ih, List.map_cons, List.mem_cons]
      constructor
      · rintro h (q | q)
        · exact e q.symm
        · exact h q
      · intro h q; exact h (.inr q)
theorem tget_mem {B : Tab} {k : List Nat} {v : Nat} (h : tget B k = some v) : (k, v) ∈ B := by
  induction B with
  | nil => cases h
  | cons p r ih =>
    have h : (if p.1 = k then some p.2 else tget r k) = some v := h
    by_cases e : p.1 = k
    · rw [if_pos e] at h
      cases h
      subst e
      exact List.mem_cons_self
    · rw [if_neg e] at h
      exact List.mem_cons_of_mem _ (ih h)
theorem tget_of {B : Tab} (hn : (B.map (·.1)).Nodup) {p : List Nat × Nat} (hp : p ∈ B) : tget B p.1 = some p.2 := by
  induction B with
  | nil => cases hp
  | cons q r ih =>
    rw [List.map_cons, List.nodup_cons] at hn
    show (if q.1 = p.1 then some q.2 else tget r p.1) = _
    rcases List.mem_cons.mp hp with e | e
    · subst e; rw [if_pos rfl]
    · rw [if_neg (fun z => hn.1 (by rw [z]; exact List.mem_map.mpr ⟨p, e, rfl⟩)), ih hn.2 e]
theorem bump_eq {B : Tab} (T : TabOk fit a B) {k : List Nat} {v : Nat} (hv : 2 * v + k.length = a) : bump B k v = if k ∈ B.map (·.1) then B else B ++ [(k, v)] := by
  unfold bump
  cases e : tget B k with
  | none =>
    have hk := tget_none.mp e
    rw [if_neg hk]
    unfold tput
    rw [if_neg (fun h => by
      obtain ⟨p, hp, q⟩ := List.any_eq_true.mp h
      exact hk (List.mem_map.mpr ⟨p, hp, of_decide_eq_true q⟩))]
    show B ++ [(k, max 0 v)] = _
    rw [Nat.zero_max]
  | some w =>
    have hm := tget_mem e
    have hk : k ∈ B.map (·.1) := List.mem_map.mpr ⟨(k, w), hm, rfl⟩
    have hw := (T.ok _ hm).1
    have hwv : w = v := by
      have hw : 2 * w + k.length = a := hw
      omega
    rw [if_pos hk]
    unfold tput
    rw [if_pos (List.any_eq_true.mpr ⟨(k, w), hm, decide_eq_true rfl⟩)]
    show B.map (fun p => if p.1 = k then (p.1, max w v) else p) = B
    rw [hwv, Nat.max_self]
    have h : B.map (fun p => if p.1 = k then (p.1, v) else p) = B.map id := List.map_congr_left fun p hp => by
      by_cases q : p.1 = k
      · rw [if_pos q]
        have := (T.ok p hp).1
        rw [q] at this
        have hv2 : p.2 = v := by omega
        rw [← hv2]; rfl
      · rw [if_neg q]; rfl
    rw [h, List.map_id]
theorem bump_ok {B : Tab} (T : TabOk fit a B) {k : List Nat} {v : Nat} (hv : 2 * v + k.length = a) (hm : ∃ μ, Mat fit a μ ∧ freeA a μ = k) : TabOk fit a (bump B k v) ∧ (∀ x ∈ B.map (·.1), x ∈ (bump B k v).map (·.1)) ∧ k ∈ (bump B k v).map (·.1) := by
  rw [bump_eq T hv]
  by_cases hk : k ∈ B.map (·.1)
  · rw [if_pos hk]
    exact ⟨T, fun x hx => hx, hk⟩
  · rw [if_neg hk, List.map_append]
    refine ⟨⟨?_, fun p hp => ?_⟩, fun x hx => List.mem_append_left _ hx, List.mem_append_right _ List.mem_cons_self⟩
    · rw [List.map_append, List.nodup_append]
      refine ⟨T.nd, by simp, fun x hx y hy q => ?_⟩
      have hy : y = k := by simpa using hy
      rw [q, hy] at hx
      exact hk hx
    · rcases List.mem_append.mp hp with q | q
      · exact T.ok p q
      · rw [List.mem_singleton] at q
        rw [q]
        exact ⟨hv, hm⟩
/-- one who is left, and those of them that the new one fits -/
def tabIn (fit : Nat → Nat → Bool) (a : Nat) (free : List Nat) (many : Nat) (l : List Nat) (F : Tab) : Tab := l.foldl (fun F o => if fit o a = true then bump F (free.filter fun x => decide (x ≠ o)) (many + 1) else F) F
def tabRow (fit : Nat → Nat → Bool) (a : Nat) (p : List Nat × Nat) (F : Tab) : Tab := tabIn fit a p.1 p.2 p.1 (bump F (p.1 ++ [a]) p.2)
def tabStep (fit : Nat → Nat → Bool) (a : Nat) (B : Tab) : Tab := B.foldl (fun F p => tabRow fit a p F) []
def tabsM (fit : Nat → Nat → Bool) : Nat → Tab
  | 0 => [([], 0)]
  | a + 1 => tabStep fit a (tabsM fit a)
theorem free_wide {μ : Nat → Option Nat} (M : Mat fit a μ) : freeA (a + 1) μ = freeA a μ ++ [a] := by
  have : (μ a).isNone = true := by rw [M.none_ge (Nat.le_refl _)]; rfl
  unfold freeA
  rw [List.range_succ, List.filter_append, List.filter_cons, this]
  rfl
theorem free_pair (g : Gph fit kd) {μ : Nat → Option Nat} (M : Mat fit a μ) {o : Nat} (ho : o < a) (hn : μ o = none) (hf : fit o a = true) :
    Mat fit (a + 1) (upm (upm μ o a) a o) ∧ freeA (a + 1) (upm (upm μ o a) a o) = (freeA a μ).filter fun x => decide (x ≠ o) := by
  have hna : μ a = none := M.none_ge (Nat.le_refl _)
  have hoa : o ≠ a := by omega
  have e1 : ∀ x, upm (upm μ o a) a o x = if x = a then some o else if x = o then some a else μ x := fun x => rfl
  constructor
  · refine ⟨fun i j h => ?_, fun i j h => ?_, fun i j h => ?_⟩
    · rw [e1] at h
      by_cases hi : i = a
      · rw [if_pos hi] at h
        have : o = j := Option.some.inj h
        subst this
        rw [e1, if_neg hoa, if_pos rfl, hi]
      · rw [if_neg hi] at h
        by_cases hi2 : i = o
        · rw [if_pos hi2] at h
          have : a = j := Option.some.inj h
          subst this
          rw [e1, if_pos rfl, hi2]
        · rw [if_neg hi2] at h
          have hs := M.sym _ _ h
          have hja : j ≠ a := fun q => by rw [q, hna] at hs; cases hs
          have hjo : j ≠ o := fun q => by rw [q, hn] at hs; cases hs
          rw [e1, if_neg hja, if_neg hjo, hs]
    · rw [e1] at h
      by_cases hi : i = a
      · rw [if_pos hi] at h
        have : o = j := Option.some.inj h
        subst this
        rw [hi]; exact g.sym _ _ hf
      · rw [if_neg hi] at h
        by_cases hi2 : i = o
        · rw [if_pos hi2] at h
          have : a = j := Option.some.inj h
          subst this
          rw [hi2]; exact hf
        · rw [if_neg hi2] at h
          exact M.fit _ _ h
    · rw [e1] at h
      by_cases hi : i = a
      · omega
      · rw [if_neg hi] at h
        by_cases hi2 : i = o
        · omega
        · rw [if_neg hi2] at h
          have := M.lt _ _ h
          omega
  · unfold freeA
    rw [List.range_succ, List.filter_append, List.filter_cons, List.filter_filter]
    have ea : (upm (upm μ o a) a o a).isNone = false := by rw [e1, if_pos rfl]; rfl
    rw [ea]
    simp only [Bool.false_eq_true, if_false, List.filter_nil, List.append_nil]
    refine List.filter_congr fun x hx => ?_
    have hx := List.mem_range.mp hx
    rw [e1, if_neg (show x ≠ a by omega)]
    by_cases q : x = o
    · rw [if_pos q, decide_eq_false (fun z => z q)]; rfl
    · rw [if_neg q, decide_eq_true q]; simp
theorem filt_len {l : List Nat} {o : Nat} (hn : l.Nodup) (ho : o ∈ l) : (l.filter fun x => decide (x ≠ o)).length + 1 = l.length := by
  have h := part_len (fun x => decide (x ≠ o)) l
  have h2 : (l.filter fun x => !decide (x ≠ o)) = [o] ∨ (l.filter fun x => !decide (x ≠ o)).length = 1 := by
    right
    have hp : (l.filter fun x => !decide (x ≠ o)).Perm [o] := by
      refine (List.perm_ext_iff_of_nodup (hn.filter _) (by simp)).mpr fun x => ?_
      rw [List.mem_filter]
      constructor
      · rintro ⟨_, q⟩
        have : x = o := by simpa using q
        simp [this]
      · intro q
        have : x = o := by simpa using q
        subst this
        exact ⟨ho, by simp⟩
    exact hp.length_eq
  rcases h2 with e | e
  · rw [e] at h; exact h
  · omega
theorem tabIn_ok (g : Gph fit kd) {μ : Nat → Option Nat} (M : Mat fit a μ) {many : Nat} (hv : 2 * many + (freeA a μ).length = a) : ∀ (l : List Nat) (F : Tab), (∀ o ∈ l, o ∈ freeA a μ) → TabOk fit (a + 1) F →
    TabOk fit (a + 1) (tabIn fit a (freeA a μ) many l F) ∧ (∀ x ∈ F.map (·.1), x ∈ (tabIn fit a (freeA a μ) many l F).map (·.1)) ∧ ∀ o ∈ l, fit o a = true → ((freeA a μ).filter fun x => decide (x ≠ o)) ∈ (tabIn fit a (freeA a μ) many l F).map (·.1)
  | [], F, _, T => ⟨T, fun x hx => hx, fun o ho => (nomatch ho)⟩
  | o :: l, F, hl, T => by
    have ho := hl o List.mem_cons_self
    obtain ⟨oa, on⟩ := freeA_iff.mp ho
    have key : TabOk fit (a + 1) (if fit o a = true then bump F ((freeA a μ).filter fun x => decide (x ≠ o)) (many + 1) else F) ∧ (∀ x ∈ F.map (·.1), x ∈ (if fit o a = true then bump F ((freeA a μ).filter fun x => decide (x ≠ o)) (many + 1) else F).map (·.1)) ∧ (fit o a = true → ((freeA a μ).filter fun x => decide (x ≠ o)) ∈ (if fit o a = true then bump F ((freeA a μ).filter fun x => decide (x ≠ o)) (many + 1) else F).map (·.1)) := by
      by_cases hf : fit o a = true
      · rw [if_pos hf]
        obtain ⟨N, hN⟩ := free_pair g M oa on hf
        have hlen := filt_len (l := freeA a μ) (List.Pairwise.filter _ List.nodup_range) ho
        obtain ⟨b1, b2, b3⟩ := bump_ok T (k := (freeA a μ).filter fun x => decide (x ≠ o)) (v := many + 1) (by omega) ⟨_, N, hN⟩
        exact ⟨b1, b2, fun _ => b3⟩
      · rw [if_neg hf]
        exact ⟨T, fun x hx => hx, fun q => absurd q hf⟩
    obtain ⟨k1, k2, k3⟩ := key
    obtain ⟨i1, i2, i3⟩ := tabIn_ok g M hv l _ (fun z hz => hl z (List.mem_cons_of_mem _ hz)) k1
    refine ⟨i1, fun x hx => i2 x (k2 x hx), fun z hz hf => ?_⟩
    rcases List.mem_cons.mp hz with q | q
    · subst q
      exact i2 _ (k3 hf)
    · exact i3 z q hf
theorem tabRow_ok (g : Gph fit kd) {μ : Nat → Option Nat} (M : Mat fit a μ) {many : Nat} (hv : 2 * many + (freeA a μ).length = a) {F : Tab} (T : TabOk fit (a + 1) F) :
    TabOk fit (a + 1) (tabRow fit a (freeA a μ, many) F) ∧ (∀ x ∈ F.map (·.1), x ∈ (tabRow fit a (freeA a μ, many) F).map (·.1)) ∧ (freeA a μ ++ [a]) ∈ (tabRow fit a (freeA a μ, many) F).map (·.1) ∧ ∀ o ∈ freeA a μ, fit o a = true → ((freeA a μ).filter fun x => decide (x ≠ o)) ∈ (tabRow fit a (freeA a μ, many) F).map (·.1) := by
  obtain ⟨b1, b2, b3⟩ := bump_ok T (k := freeA a μ ++ [a]) (v := many) (by rw [List.length_append, List.length_singleton]; omega) ⟨μ, M.wide (Nat.le_succ a), free_wide M⟩
  obtain ⟨i1, i2, i3⟩ := tabIn_ok g M hv (freeA a μ) _ (fun o ho => ho) b1
  exact ⟨i1, fun x hx => i2 x (b2 x hx), i2 _ b3, i3⟩
theorem tabStep_ok (g : Gph fit kd) {B : Tab} (T : TabOk fit a B) : TabOk fit (a + 1) (tabStep fit a B) ∧ ∀ p ∈ B, (p.1 ++ [a]) ∈ (tabStep fit a B).map (·.1) ∧ ∀ o ∈ p.1, fit o a = true → (p.1.filter fun x => decide (x ≠ o)) ∈ (tabStep fit a B).map (·.1) := by
  have gen : ∀ (l : Tab) (F : Tab), (∀ p ∈ l, p ∈ B) → TabOk fit (a + 1) F → TabOk fit (a + 1) (l.foldl (fun F p => tabRow fit a p F) F) ∧ (∀ x ∈ F.map (·.1), x ∈ (l.foldl (fun F p => tabRow fit a p F) F).map (·.1)) ∧ ∀ p ∈ l, (p.1 ++ [a]) ∈ (l.foldl (fun F p => tabRow fit a p F) F).map (·.1) ∧ ∀ o ∈ p.1, fit o a = true → (p.1.filter fun x => decide (x ≠ o)) ∈ (l.foldl (fun F p => tabRow fit a p F) F).map (·.1) := by
    intro l
    induction l with
    | nil => exact fun F _ T => ⟨T, fun x hx => hx, fun p hp => (nomatch hp)⟩
    | cons p l ih =>
      intro F hl T
      obtain ⟨hv, μ, M, e⟩ := (TabOk.ok ‹_› p (hl p List.mem_cons_self) : 2 * p.2 + p.1.length = a ∧ ∃ μ, Mat fit a μ ∧ freeA a μ = p.1)
      rw [← e] at hv
      obtain ⟨r1, r2, r3, r4⟩ := tabRow_ok g M hv T
      have hp : (freeA a μ, p.2) = p := by rw [e]
      rw [hp] at r1 r2 r3 r4
      rw [e] at r3 r4
      obtain ⟨i1, i2, i3⟩ := ih _ (fun z hz => hl z (List.mem_cons_of_mem _ hz)) r1
      refine ⟨i1, fun x hx => i2 x (r2 x hx), fun z hz => ?_⟩
      rcases List.mem_cons.mp hz with q | q
      · subst q
        exact ⟨i2 _ r3, fun o ho hf => i2 _ (r4 o ho hf)⟩
      · exact i3 z q
  obtain ⟨h1, _, h3⟩ := gen B [] (fun p hp => hp) ⟨List.nodup_nil, fun p hp => (nomatch hp)⟩
  exact ⟨h1, h3⟩
/-- all ways are in the table -/
def TabAll (fit : Nat → Nat → Bool) (a : Nat) (B : Tab) : Prop := ∀ μ, Mat fit a μ → freeA a μ ∈ B.map (·.1)
theorem tabStep_all (g : Gph fit kd) {B : Tab} (T : TabOk fit a B) (A : TabAll fit a B) : TabAll fit (a + 1) (tabStep fit a B) := by
  obtain ⟨_, h⟩ := tabStep_ok g T
  intro ν N
  cases e : ν a with
  | none =>
    have M : Mat fit a ν := ⟨N.sym, N.fit, fun i j h => by
      have := N.lt _ _ h
      have : i ≠ a := fun q => by rw [q, e] at h; cases h
      omega⟩
    obtain ⟨p, hp, ep⟩ := List.mem_map.mp (A ν M)
    rw [free_wide M, ← ep]
    exact (h p hp).1
  | some o =>
    have hs := N.sym _ _ e
    have hf := N.fit _ _ hs
    have hoa : o ≠ a := fun q => by
      rw [q] at hf
      have := g.kd _ _ hf
      cases hk : kd a <;> rw [hk] at this <;> cases this
    have ho : o < a := by have := N.lt _ _ hs; omega
    let μ : Nat → Option Nat := fun x => if x = a ∨ x = o then none else ν x
    have eμ : ∀ x, μ x = if x = a ∨ x = o then none else ν x := fun x => rfl
    have hso : ∀ i j, μ i = some j → (i ≠ a ∧ i ≠ o) ∧ ν i = some j := fun i j hi => by
      rw [eμ] at hi
      by_cases q : i = a ∨ i = o
      · rw [if_pos q] at hi; cases hi
      · rw [if_neg q] at hi
        exact ⟨⟨fun z => q (.inl z), fun z => q (.inr z)⟩, hi⟩
    have M : Mat fit a μ := by
      refine ⟨fun i j hi => ?_, fun i j hi => N.fit _ _ (hso i j hi).2, fun i j hi => ?_⟩
      · obtain ⟨⟨h1, h2⟩, h3⟩ := hso i j hi
        have h4 := N.sym _ _ h3
        rw [eμ, if_neg (fun q => by
          rcases q with q | q
          · rw [q, e] at h4; exact h2 (Option.some.inj h4).symm
          · rw [q, hs] at h4; exact h1 (Option.some.inj h4).symm), h4]
      · obtain ⟨⟨h1, h2⟩, h3⟩ := hso i j hi
        have := N.lt _ _ h3
        omega
    have hμo : μ o = none := by rw [eμ, if_pos (.inr rfl)]
    obtain ⟨p, hp, ep⟩ := List.mem_map.mp (A μ M)
    have hmo : o ∈ p.1 := by rw [ep]; exact freeA_iff.mpr ⟨ho, hμo⟩
    have := (h p hp).2 o hmo hf
    rw [ep] at this
    obtain ⟨N2, e2⟩ := free_pair g M ho hμo hf
    rw [← e2] at this
    have en : upm (upm μ o a) a o = ν := by
      funext x
      show (if x = a then some o else if x = o then some a else μ x) = ν x
      by_cases q : x = a
      · rw [if_pos q, q, e]
      · rw [if_neg q]
        by_cases q2 : x = o
        · rw [if_pos q2, q2, hs]
        · rw [if_neg q2, eμ, if_neg (fun z => by
            rcases z with z | z
            · exact q z
            · exact q2 z)]
    rw [en] at this
    exact this
theorem tabs_ok (g : Gph fit kd) : ∀ a, TabOk fit a (tabsM fit a) ∧ TabAll fit a (tabsM fit a)
  | 0 => ⟨⟨by simp [tabsM], fun p hp => by
      have : p = ([], 0) := by simpa [tabsM] using hp
      rw [this]
      exact ⟨rfl, fun _ => none, ⟨fun i j h => (nomatch h), fun i j h => (nomatch h), fun i j h => (nomatch h)⟩, rfl⟩⟩, fun μ M => by
      show ([] : List Nat) ∈ _
      simp [tabsM]⟩
  | a + 1 => by
    obtain ⟨h1, h2⟩ := tabs_ok g a
    exact ⟨(tabStep_ok g h1).1, tabStep_all g h1 h2⟩
/-- the most of the table -/
theorem tab_most (g : Gph fit kd) {μ : Nat → Option Nat} (M : Mat fit a μ) (X : Max1 fit kd a μ) {v : Nat} (hv : 2 * v + (freeA a μ).length = a) : v ∈ (tabsM fit a).map (·.2) ∧ ∀ w ∈ (tabsM fit a).map (·.2), w ≤ v := by
  obtain ⟨T, A⟩ := tabs_ok g a
  constructor
  · obtain ⟨p, hp, e⟩ := List.mem_map.mp (A μ M)
    have := (T.ok p hp).1
    rw [e] at this
    refine List.mem_map.mpr ⟨p, hp, ?_⟩
    omega
  · intro w hw
    obtain ⟨p, hp, e⟩ := List.mem_map.mp hw
    obtain ⟨h1, ν, N, h2⟩ := T.ok p hp
    have := free_min g M X N
    rw [h2] at this
    omega
/-! how many there are -/
def allF : Nat → List (List Nat)
  | 0 => [[]]
  | a + 1 => allF a ++ (allF a).map (· ++ [a])
theorem allF_len : ∀ a, (allF a).length = 2 ^ a
  | 0 => rfl
  | a + 1 => by
    show (allF a ++ (allF a).map (· ++ [a])).length = _
    rw [List.length_append, List.length_map, allF_len a, Nat.pow_succ]
    omega
theorem filt_all (p : Nat → Bool) : ∀ a, (List.range a).filter p ∈ allF a
  | 0 => by simp [allF]
  | a + 1 => by
    have ih := filt_all p a
    rw [List.range_succ, List.filter_append]
    show _ ∈ allF a ++ (allF a).map (· ++ [a])
    cases h : p a with
    | true =>
      have : [a].filter p = [a] := by simp [h]
      rw [this]
      exact List.mem_append_right _ (List.mem_map.mpr ⟨_, ih, rfl⟩)
    | false =>
      have : [a].filter p = [] := by simp [h]
      rw [this, List.append_nil]
      exact List.mem_append_left _ ih
theorem TabOk.len {B : Tab} (T : TabOk fit a B) : B.length ≤ 2 ^ a := by
  have := subset_len (l := B.map (·.1)) (l' := allF a) T.nd (fun x hx => by
    obtain ⟨p, hp, e⟩ := List.mem_map.mp hx
    obtain ⟨_, μ, _, h⟩ := T.ok p hp
    rw [← e, ← h]
    exact filt_all _ a)
  rw [List.length_map, allF_len] at this
  exact this
end

/-! ### a pairing, by value -/
abbrev Rw := List (Str × Int)
def rowD (r : Str × Int) : D := .tup [.str r.1, .int r.2]
def rowsD (rs : Rw) : D := .lst (rs.map rowD)
def encM (m : Kl) : List (Key × D) := m.map fun p => (Sum.inl (p.1 : Int), D.int (p.2 : Int))
def pob (rs : Rw) (m : Kl) : Ob := ⟨"Pairing", [("rows", .own (rowsD rs)), ("mates", .own (.dK (encM m)))]⟩
def putA (m : Kl) (i j : Nat) : Kl := if hasK m i = true then m.map (fun p => if p.1 = i then (p.1, j) else p) else m ++ [(i, j)]
def intsD (l : List Nat) : List D := l.map fun (i : Nat) => D.int (i : Int)
theorem getA_map {i j x : Nat} : ∀ {m : Kl}, getA (m.map fun p => if p.1 = i then (p.1, j) else p) x = if x = i then (if hasK m i = true then some j else none) else getA m x
  | [] => by
    show none = _
    by_cases h : x = i
    · rw [if_pos h]; rfl
    · rw [if_neg h]; rfl
  | p :: r => by
    rw [List.map_cons]
    have ih := getA_map (i := i) (j := j) (x := x) (m := r)
    show (if (if p.1 = i then (p.1, j) else p).1 = x then some (if p.1 = i then (p.1, j) else p).2 else getA (r.map _) x) = if x = i then (if (decide (p.1 = i) || hasK r i) = true then some j else none) else (if p.1 = x then some p.2 else getA r x)
    by_cases h1 : p.1 = i
    · rw [if_pos h1]
      by_cases h2 : x = i
      · have h3 : p.1 = x := h1.trans h2.symm
        rw [if_pos h3, if_pos h2, decide_eq_true h1, Bool.true_or, if_pos rfl]
      · have h3 : ¬ p.1 = x := fun q => h2 (q.symm.trans h1)
        rw [if_neg h3, if_neg h2, if_neg h3, ih, if_neg h2]
    · rw [if_neg h1, decide_eq_false h1, Bool.false_or]
      by_cases h2 : p.1 = x
      · have h3 : ¬ x = i := fun q => h1 (h2.trans q)
        rw [if_pos h2, if_neg h3, if_pos h2]
      · rw [if_neg h2, ih, if_neg h2]
theorem getA_app {m : Kl} {i j x : Nat} (h : hasK m i = false) : getA (m ++ [(i, j)]) x = if x = i then some j else getA m x := by
  induction m with
  | nil =>
    show (if i = x then some j else none) = _
    by_cases e : x = i
    · rw [if_pos e, if_pos e.symm]
    · rw [if_neg e, if_neg (Ne.symm e)]; rfl
  | cons p r ih =>
    have h : (decide (p.1 = i) || hasK r i) = false := h
    rw [Bool.or_eq_false_iff] at h
    have hp := of_decide_eq_false h.1
    show (if p.1 = x then some p.2 else getA (r ++ [(i, j)]) x) = if x = i then some j else (if p.1 = x then some p.2 else getA r x)
    by_cases e : p.1 = x
    · rw [if_pos e, if_neg (fun q => hp (e.trans q)), if_pos e]
    · rw [if_neg e, ih h.2, if_neg e]
theorem getA_put {m : Kl} {i j : Nat} : getA (putA m i j) = upm (getA m) i j := by
  funext x
  unfold putA upm
  cases h : hasK m i with
  | true =>
    rw [if_pos rfl, getA_map, h]; rfl
  | false =>
    rw [if_neg Bool.false_ne_true, getA_app h]
theorem put_keys {m : Kl} {i j : Nat} (h : (m.map (·.1)).Nodup) : ((putA m i j).map (·.1)).Nodup := by
  unfold putA
  cases e : hasK m i with
  | true =>
    rw [if_pos rfl, List.map_map]
    have : ((fun p : Nat × Nat => p.1) ∘ fun p => if p.1 = i then (p.1, j) else p) = fun p => p.1 := by
      funext p
      show (if p.1 = i then (p.1, j) else p).1 = p.1
      split <;> rfl
    rw [this]; exact h
  | false =>
    rw [if_neg Bool.false_ne_true, List.map_append, List.nodup_append]
    refine ⟨h, by simp, fun a ha b hb q => ?_⟩
    have hb : b = i := by simpa using hb
    rw [q, hb] at ha
    rw [hasK_iff.mpr ha] at e; cases e
theorem getA_keys {m : Kl} {x : Nat} : getA m x ≠ none ↔ x ∈ m.map (·.1) := by
  induction m with
  | nil => simp [getA]
  | cons p r ih =>
    show (if p.1 = x then some p.2 else getA r x) ≠ none ↔ _
    by_cases e : p.1 = x
    · rw [if_pos e]; simp [e]
    · rw [if_neg e, ih, List.map_cons, List.mem_cons]
      constructor
      · exact .inr
      · rintro (q | q)
        · exact absurd q.symm e
        · exact q
theorem enc_get {m : Kl} {x : Nat} : kget (encM m) (Sum.inl (x : Int)) = (getA m x).map fun w => .int (w : Int) := by
  induction m with
  | nil => rfl
  | cons p r ih =>
    show (if (Sum.inl (p.1 : Int) : Key) = Sum.inl (x : Int) then some (D.int p.2) else kget (encM r) _) = (if p.1 = x then some p.2 else getA r x).map _
    by_cases e : p.1 = x
    · rw [if_pos (by rw [e]), if_pos e]; rfl
    · rw [if_neg (fun q => e (by injection q with q; omega)), if_neg e, ih]
theorem enc_put {m : Kl} {i j : Nat} : putD (encM m) (Sum.inl (i : Int)) (.int (j : Int)) = encM (putA m i j) := by
  have key : ((encM m).any fun kv => decide (kv.1 = Sum.inl (i : Int))) = hasK m i := by
    unfold encM hasK
    rw [List.any_map]
    congr 1
    funext p
    show decide ((Sum.inl (p.1 : Int) : Key) = Sum.inl (i : Int)) = decide (p.1 = i)
    by_cases e : p.1 = i
    · rw [decide_eq_true e, decide_eq_true (by rw [e])]
    · rw [decide_eq_false e, decide_eq_false (fun q => e (by injection q with q; omega))]
  unfold putD putA
  rw [key]
  cases h : hasK m i with
  | true =>
    rw [if_pos rfl, if_pos rfl]
    unfold encM
    rw [List.map_map, List.map_map]
    congr 1
    funext p
    show (if (Sum.inl (p.1 : Int) : Key) = Sum.inl (i : Int) then ((Sum.inl (p.1 : Int) : Key), D.int (j : Int)) else (Sum.inl (p.1 : Int), D.int (p.2 : Int))) = (Sum.inl (((if p.1 = i then (p.1, j) else p).1 : Nat) : Int), D.int (((if p.1 = i then (p.1, j) else p).2 : Nat) : Int))
    by_cases e : p.1 = i
    · rw [if_pos (by rw [e]), if_pos e]
    · rw [if_neg (fun q => e (by injection q with q; omega)), if_neg e]
  | false =>
    rw [if_neg Bool.false_ne_true, if_neg Bool.false_ne_true]
    unfold encM
    rw [List.map_append]; rfl
theorem enc_len {m : Kl} : (encM m).length = m.length := List.length_map ..
theorem enc_free {m : Kl} : ((encM m).all fun kv => D.free kv.2) = true := by
  unfold encM
  rw [List.all_map, List.all_eq_true]
  intro p _; rfl
theorem gPut_enc {m : Kl} {i j : Nat} (h : m.length < 1000000) : gPut (.dK (encM m)) (.int (i : Int)) (.int (j : Int)) = some (D.dK (encM (putA m i j))) := by
  show (match D.flatK (.int (i : Int)) with
      | some k => @ite _ ((encM m).length < 1000000) (Classical.propDecidable _) (some (D.dK (putD (encM m) k (.int (j : Int))))) none
      | none => none) = _
  rw [← enc_put]
  exact @if_pos _ (Classical.propDecidable _) (by rw [enc_len]; exact h) _ _ _
theorem gIx_enc {m : Kl} {x w : Nat} (h : getA m x = some w) : gIx (.dK (encM m)) (.int (x : Int)) = .ok (.int (w : Int)) := by
  show (match (D.flatK (.int (x : Int))).map (kget (encM m) ·) with
      | some (some d) => Res.ok d
      | _ => .stuck) = _
  show (match some (kget (encM m) (Sum.inl (x : Int))) with
      | some (some d) => Res.ok d
      | _ => .stuck) = _
  rw [enc_get, h]; rfl
theorem gIn_enc {m : Kl} {x : Nat} : gIn (.int (x : Int)) (.dK (encM m)) = .ok (.bl (getA m x).isSome) := by
  have h : gIn (.int (x : Int)) (.dK (encM m)) = .ok (.bl (kget (encM m) (Sum.inl (x : Int))).isSome) := rfl
  rw [h, enc_get]
  cases getA m x <;> rfl
theorem gNotIn_enc {m : Kl} {x : Nat} : gNotIn (.int (x : Int)) (.dK (encM m)) = .ok (.bl (getA m x).isNone) := by
  have h : gNotIn (.int (x : Int)) (.dK (encM m)) = .ok (.bl (!(kget (encM m) (Sum.inl (x : Int))).isSome)) := rfl
  rw [h, enc_get]
  cases getA m x <;> rfl
theorem hasK_get {m : Kl} {x : Nat} : (getA m x).isNone = !hasK m x := by
  cases e : getA m x with
  | none =>
    cases h : hasK m x with
    | false => rfl
    | true => exact absurd e (getA_keys.mpr (hasK_iff.mp h))
  | some w =>
    rw [hasK_iff.mpr (getA_keys.mp (by rw [e]; simp))]; rfl
/-! the object's fields -/
section
variable {rs : Rw} {m : Kl} {ω : Store} {k : Nat}
theorem fld_rows (h : ω[k]? = some (pob rs m)) : fldAt "Pairing" "rows" ω (.obj k) = .ok (rowsD rs) := by
  unfold fldAt
  dsimp only
  rw [h]
  rfl
theorem fld_mates (h : ω[k]? = some (pob rs m)) : fldAt "Pairing" "mates" ω (.obj k) = .ok (.dK (encM m)) := by
  unfold fldAt
  dsimp only
  rw [h]
  rfl
theorem recv_pob {mt : Str} (h : ω[k]? = some (pob rs m)) (hm : noFd mt (pob [] []).fs = true) : recv "Pairing" mt ω (.obj k) = true := by
  have e : ∀ (a b : Sl), noFd mt [("rows", a), ("mates", b)] = noFd mt (pob [] []).fs := fun a b => rfl
  unfold recv
  dsimp only
  rw [h]
  show (decide ((pob rs m).cls = "Pairing") && noFd mt (pob rs m).fs) = true
  rw [show noFd mt (pob rs m).fs = noFd mt (pob [] []).fs from e _ _, hm]; rfl
theorem obj_pob {n0 : Nat} (h : ω[k]? = some (pob rs m)) (hn : n0 ≤ k) : objAt "Pairing" n0 ω (.obj k) = some (k, pob rs m) := by
  unfold objAt
  dsimp only
  rw [h]
  exact if_pos ⟨rfl, hn, by show 2 < 1000; decide⟩
theorem own_rows {n0 : Nat} (h : ω[k]? = some (pob rs m)) (hn : n0 ≤ k) : ownF "Pairing" "rows" n0 ω (.obj k) = some (k, pob rs m, rowsD rs) := by
  unfold ownF
  rw [obj_pob h hn]
  rfl
theorem own_mates {n0 : Nat} (h : ω[k]? = some (pob rs m)) (hn : n0 ≤ k) : ownF "Pairing" "mates" n0 ω (.obj k) = some (k, pob rs m, .dK (encM m)) := by
  unfold ownF
  rw [obj_pob h hn]
  rfl
theorem st_mates {m' : Kl} : stF "Pairing" "mates" ω k (pob rs m) (.own (.dK (encM m'))) = ω.set k (pob rs m') := rfl
theorem st_rows {rs' : Rw} : stF "Pairing" "rows" ω k (pob rs m) (.own (rowsD rs')) = ω.set k (pob rs' m) := rfl
end

/-! ### its methods -/
def fitB (rs : Rw) (i j : Nat) : Bool := match rs[min i j]?, rs[max i j]? with
  | some a, some b => !decide (a.1 = b.1) && decide (a.2 ≤ b.2)
  | _, _ => false
def nearB (rs : Rw) (i : Nat) : List Nat := (List.range rs.length).filter fun o => fitB rs i o
abbrev NG : Er := ⟨"NoGift", "no gift"⟩
theorem rows_len {rs : Rw} : gLen (rowsD rs) = .ok (.int (rs.length : Int)) := by
  show Res.ok (D.int ((rs.map rowD).length : Int)) = _
  rw [List.length_map]
theorem rows_at {rs : Rw} {i : Nat} {r : Str × Int} (h : rs[i]? = some r) : gIx (rowsD rs) (.int (i : Int)) = .ok (rowD r) := gIx_lst (by omega) (by rw [Int.toNat_natCast, List.getElem?_map, h]; rfl)
theorem gNe_strs (i j : Str) : gNe (.str i) (.str j) = .ok (.bl (!decide (i = j))) := rfl
theorem intsD_len {l : List Nat} : (intsD l).length = l.length := List.length_map ..
theorem intsD_free {l : List Nat} : D.frees (intsD l) = true := by
  induction l with
  | nil => rfl
  | cons a l ih => show (D.free (.int (a : Int)) && D.frees (intsD l)) = true; rw [ih]; rfl
theorem intsD_at {l : List Nat} {i v : Nat} (h : l[i]? = some v) : gIx (.lst (intsD l)) (.int (i : Int)) = .ok (.int (v : Int)) := gIx_lst (by omega) (by
  unfold intsD
  rw [Int.toNat_natCast, List.getElem?_map, h]; rfl)
theorem range_ints (n : Nat) : rangeD 0 n = intsD (List.range n) := by
  unfold rangeD intsD
  congr 1
  funext j
  rw [Int.zero_add]
theorem compL_filt {i : Nat} {tt : Env' → Store → Res Bool} {me : M} {ω : Store} {ρ : Env'} {p : Nat → Bool} : ∀ {l : List Nat}, (∀ x ∈ l, tt (ρ.set i (.val (.int (x : Int)))) ω = .ok (p x)) → (∀ x ∈ l, me (ρ.set i (.val (.int (x : Int)))) ω = .ok (.int (x : Int))) → compL i tt me ω ρ (intsD l) = .ok (intsD (l.filter p))
  | [], _, _ => rfl
  | a :: l, h1, h2 => by
    have ih := compL_filt (p := p) (fun x hx => h1 x (List.mem_cons_of_mem _ hx)) (fun x hx => h2 x (List.mem_cons_of_mem _ hx))
    show compL i tt me ω ρ (.int (a : Int) :: intsD l) = _
    unfold compL
    rw [h1 a List.mem_cons_self]
    rw [List.filter_cons]
    cases e : p a with
    | true =>
      dsimp only
      rw [h2 a List.mem_cons_self]
      dsimp only
      rw [ih]; rfl
    | false =>
      dsimp only
      rw [ih]; rfl
section
variable {rs : Rw} {m : Kl} {ω : Store} {k : Nat}
theorem look_eq (h : ω[k]? = some (pob rs m)) (i : Int) (n0 : Nat) : fu_Pairing_look n0 [.obj k, .int i] ω = if 0 ≤ i ∧ i < rs.length then .ok .non ω else .er NG ω := by
  have hr := fld_rows h
  have hl := rows_len (rs := rs)
  generalize rowsD rs = R at *
  simp only [fu_Pairing_look, m_Pairing_look, fuOf, envS]
  by_cases h0 : i < 0
  · rw [if_neg (by omega)]
    simp [h0]
  · by_cases h1 : i < rs.length
    · rw [if_pos (by omega)]
      have h2 : ¬ (rs.length : Int) ≤ i := by omega
      simp [-gLen, mFld, hr, hl, h0, h2]
    · rw [if_neg (by omega)]
      have h2 : (rs.length : Int) ≤ i := by omega
      simp [-gLen, mFld, hr, hl, h0, h2]
theorem fits_eq (h : ω[k]? = some (pob rs m)) {i j : Nat} (hi : i < rs.length) (hj : j < rs.length) (n0 : Nat) : fu_Pairing_fits n0 [.obj k, .int (i : Int), .int (j : Int)] ω = .ok (.bl (fitB rs i j)) ω := by
  have l1 := look_eq h (i : Int) ω.length
  rw [if_pos (by omega)] at l1
  have l2 := look_eq h (j : Int) ω.length
  rw [if_pos (by omega)] at l2
  have hr := fld_rows h
  have hv := recv_pob (mt := "look") h (by rfl)
  have emin : (if j < i then (j : Int) else (i : Int)) = ((min i j : Nat) : Int) := by
    by_cases q : j < i
    · rw [if_pos (by omega), Nat.min_eq_right (by omega)]
    · rw [if_neg (by omega), Nat.min_eq_left (by omega)]
  have emax : (if i < j then (j : Int) else (i : Int)) = ((max i j : Nat) : Int) := by
    by_cases q : i < j
    · rw [if_pos (by omega), Nat.max_eq_right (by omega)]
    · rw [if_neg (by omega), Nat.max_eq_left (by omega)]
  have hmin : min i j < rs.length := by omega
  have hmax : max i j < rs.length := by omega
  have e1 := List.getElem?_eq_getElem hmin
  have e2 := List.getElem?_eq_getElem hmax
  have a1 := rows_at e1
  have a2 := rows_at e2
  unfold fitB
  rw [e1, e2]
  dsimp only
  generalize rs[min i j] = r1 at *
  generalize rs[max i j] = r2 at *
  generalize rowsD rs = R at *
  clear hmin hmax e1 e2
  generalize min i j = mi at *
  generalize max i j = ma at *
  obtain ⟨t1, x1⟩ := r1
  obtain ⟨t2, x2⟩ := r2
  have a1 : gIx R (.int (mi : Int)) = .ok (.tup [.str t1, .int x1]) := a1
  have a2 : gIx R (.int (ma : Int)) = .ok (.tup [.str t2, .int x2]) := a2
  have g1 : gIx (.tup [.str t1, .int x1]) (.int 0) = .ok (.str t1) := gIx_tup (by decide) rfl
  have g2 : gIx (.tup [.str t1, .int x1]) (.int 1) = .ok (.int x1) := gIx_tup (by decide) rfl
  have g3 : gIx (.tup [.str t2, .int x2]) (.int 0) = .ok (.str t2) := gIx_tup (by decide) rfl
  have g4 : gIx (.tup [.str t2, .int x2]) (.int 1) = .ok (.int x2) := gIx_tup (by decide) rfl
  simp only [fu_Pairing_fits, m_Pairing_fits, fuOf, envS]
  by_cases q : t1 = t2
  · subst q
    simp [mFld, hr, hv, l1, l2, emin, emax, a1, a2, g1, g2, g3, g4, gNe_strs]
  · simp [mFld, hr, hv, l1, l2, emin, emax, a1, a2, g1, g2, g3, g4, gNe_strs, q]
theorem near_eq (h : ω[k]? = some (pob rs m)) (hl : rs.length ≤ 1000) {i : Nat} (hi : i < rs.length) (n0 : Nat) : fu_Pairing_near n0 [.obj k, .int (i : Int)] ω = .ok (.lst (intsD (nearB rs i))) ω := by
  have hr := fld_rows h
  have hlen := rows_len (rs := rs)
  have hv := recv_pob (mt := "fits") h (by rfl)
  have hc : compL 2 (bV (mMeth "Pairing" "fits" 3 fu_Pairing_fits (mV 0) (aCons (mV 1) (aCons (mV 2) aNil)))) (mV 2) ω [.val (.obj k), .val (.int (i : Int)), .no] (intsD (List.range rs.length)) = .ok (intsD (nearB rs i)) := by
    refine compL_filt (fun x hx => ?_) (fun x hx => by simp)
    have hx := List.mem_range.mp hx
    simp [hv, fits_eq h hi hx]
  have hrng := asRng1_len (n := rs.length) (by omega)
  rw [range_ints] at hrng
  have hil : (intsD (List.range rs.length)).length ≤ 1000 := by rw [intsD_len, List.length_range]; exact hl
  generalize rowsD rs = R at *
  generalize intsD (List.range rs.length) = Z at *
  simp only [fu_Pairing_near, m_Pairing_near, fuOf, envS]
  simp [-gLen, mFld, hr, hlen, hrng, hil, hc, demote, dmS]
/-! ways spread -/
abbrev spB : T := sIf (b2 (mV 5) (mV 2) gNotIn) (sq (sPut 2 [] (mV 5) (m2 (mV 3) (mV 4) gIx))
    (sIf (b2 (mV 5) (mFld "Pairing" "mates" (mV 0)) gIn) (sApp 3 [] (m2 (mFld "Pairing" "mates" (mV 0)) (mV 5) gIx)) sNx)) sNx
theorem getA_some_of {m : Kl} {x : Nat} (h : (getA m x).isSome = true) : ∃ w, getA m x = some w := by
  cases e : getA m x with
  | none => rw [e] at h; cases h
  | some w => exact ⟨w, rfl⟩
theorem visit_eq (h : ω[k]? = some (pob rs m)) (n0 : Nat) (bg : Sl) (kk v : Nat) : ∀ (l : List Nat) (ks : Kl) (row : List Nat) (x : Sl), row[kk]? = some v → ks.length + l.length ≤ 10000 → row.length + l.length ≤ 10000 →
    ∃ x', mFor (gN 5) spB (intsD l) n0 [.val (.obj k), bg, .own (.dK (encM ks)), .own (.lst (intsD row)), .val (.int (kk : Int)), x] ω
      = .nx [.val (.obj k), bg, .own (.dK (encM (visit (getA m) v l ks row).1)), .own (.lst (intsD (visit (getA m) v l ks row).2)), .val (.int (kk : Int)), x'] ω
  | [], ks, row, x, _, _, _ => ⟨x, rfl⟩
  | o :: l, ks, row, x, hr, hk, hw => by
    rw [List.length_cons] at hk hw
    have hf := fld_mates h
    have e1 := gNotIn_enc (m := ks) (x := o)
    rw [hasK_get] at e1
    have e2 := gIn_enc (m := m) (x := o)
    have e3 := intsD_at hr
    show ∃ x', mFor (gN 5) spB (.int (o : Int) :: intsD l) n0 _ ω = _
    unfold visit
    by_cases c : hasK ks o = true
    · rw [if_pos c]
      rw [c] at e1
      obtain ⟨x', ih⟩ := visit_eq h n0 bg kk v l ks row (.val (.int (o : Int))) hr (by omega) (by omega)
      refine ⟨x', ?_⟩
      rw [← ih]
      generalize encM ks = E at *
      simp [e1]
    · have c : hasK ks o = false := by
        cases z : hasK ks o with
        | false => rfl
        | true => exact absurd z c
      rw [if_neg (by rw [c]; exact Bool.false_ne_true)]
      rw [c] at e1
      have ep : putA ks o v = ks ++ [(o, v)] := by unfold putA; rw [c]; rfl
      have e4 := gPut_enc (m := ks) (i := o) (j := v) (by omega)
      rw [ep] at e4
      cases z : getA m o with
      | none =>
        rw [z] at e2
        obtain ⟨x', ih⟩ := visit_eq h n0 bg kk v l (ks ++ [(o, v)]) row (.val (.int (o : Int))) hr (by rw [List.length_append, List.length_singleton]; omega) (by omega)
        refine ⟨x', ?_⟩
        rw [← ih]
        generalize encM (ks ++ [(o, v)]) = E2 at *
        generalize encM ks = E at *
        generalize encM m = EM at *
        generalize intsD row = RW at *
        simp [e1, e2, e3, e4, mFld, hf]
      | some w =>
        rw [z] at e2
        have e5 := gIx_enc z
        have hrow : (intsD row).length < 1000000 := by rw [intsD_len]; omega
        have ea : intsD (row ++ [w]) = intsD row ++ [.int (w : Int)] := by unfold intsD; rw [List.map_append]; rfl
        obtain ⟨x', ih⟩ := visit_eq h n0 bg kk v l (ks ++ [(o, v)]) (row ++ [w]) (.val (.int (o : Int))) (by
          rw [List.getElem?_append_left (List.getElem?_eq_some_iff.mp hr).1]; exact hr) (by rw [List.length_append, List.length_singleton]; omega) (by rw [List.length_append, List.length_singleton]; omega)
        refine ⟨x', ?_⟩
        rw [← ih]
        rw [ea]
        generalize encM (ks ++ [(o, v)]) = E2 at *
        generalize encM ks = E at *
        generalize encM m = EM at *
        generalize intsD row = RW at *
        simp [e1, e2, e3, e4, e5, mFld, hf, hrow]
end

section
variable {rs : Rw} {m : Kl} {ω : Store} {k : Nat}
abbrev spW : T := sq (sFor [] (iLst (mMeth "Pairing" "near" 2 fu_Pairing_near (mV 0) (aCons (m2 (mV 3) (mV 4) gIx) aNil))) (gN 5) spB) (sAugI 4 (mC (.int 1)))
abbrev spT : Env' → Store → Res Bool := b2 (mV 4) (m1 (mV 3) gLen) gLt
theorem nearB_lt {i o : Nat} (h : o ∈ nearB rs i) : o < rs.length := List.mem_range.mp (List.mem_filter.mp h).1
theorem nearB_iff {i o : Nat} : o ∈ nearB rs i ↔ o < rs.length ∧ fitB rs i o = true := by
  unfold nearB
  rw [List.mem_filter, List.mem_range]
theorem nearB_len {i : Nat} : (nearB rs i).length ≤ rs.length := by
  have := List.length_filter_le (fun o => fitB rs i o) (List.range rs.length)
  rwa [List.length_range] at this
theorem fit_lt {i j : Nat} (h : fitB rs i j = true) : i < rs.length ∧ j < rs.length := by
  unfold fitB at h
  cases e1 : rs[min i j]? with
  | none => rw [e1] at h; cases h
  | some a =>
    rw [e1] at h
    cases e2 : rs[max i j]? with
    | none => rw [e2] at h; cases h
    | some b =>
      have := (List.getElem?_eq_some_iff.mp e2).1
      omega
theorem bfs_eq (h : ω[k]? = some (pob rs m)) (hl : rs.length ≤ 1000) (n0 : Nat) (bg : Sl) : ∀ (f kk : Nat) (ks ks' : Kl) (row row' : List Nat) (x : Sl), bfs (nearB rs) (getA m) f kk ks row = some (ks', row') → (∀ v ∈ row', v < rs.length) → ks'.length ≤ 2000 → row'.length ≤ 2000 →
    ∃ kk' x', mWh spT spW f n0 [.val (.obj k), bg, .own (.dK (encM ks)), .own (.lst (intsD row)), .val (.int (kk : Int)), x] ω = .nx [.val (.obj k), bg, .own (.dK (encM ks')), .own (.lst (intsD row')), kk', x'] ω
  | 0, kk, ks, ks', row, row', x, hb, _, _, _ => by cases hb
  | f + 1, kk, ks, ks', row, row', x, hb, hr, hk1, hk2 => by
    unfold bfs at hb
    cases e : row[kk]? with
    | none =>
      rw [e] at hb
      cases hb
      have h1 := List.getElem?_eq_none_iff.mp e
      have h2 : ¬ kk < row.length := by omega
      refine ⟨.val (.int (kk : Int)), x, ?_⟩
      have hlen : gLen (.lst (intsD row)) = .ok (.int (row.length : Int)) := by show Res.ok (D.int ((intsD row).length : Int)) = _; rw [intsD_len]
      generalize encM ks = E at *
      generalize intsD row = RW at *
      unfold mWh
      simp [-gLen, hlen, h2]
    | some v =>
      rw [e] at hb
      dsimp only at hb
      have h1 := (List.getElem?_eq_some_iff.mp e).1
      have pre : ∀ (f kk : Nat) (ks ks' : Kl) (row row' : List Nat), bfs (nearB rs) (getA m) f kk ks row = some (ks', row') → (∃ t, row' = row ++ t) ∧ ∃ t, ks' = ks ++ t := by
        intro f
        induction f with
        | zero => intro kk ks ks' row row' hb; cases hb
        | succ f ih =>
          intro kk ks ks' row row' hb
          unfold bfs at hb
          cases e : row[kk]? with
          | none => rw [e] at hb; cases hb; exact ⟨⟨[], by simp⟩, ⟨[], by simp⟩⟩
          | some v =>
            rw [e] at hb
            obtain ⟨⟨t1, e1⟩, ⟨t2, e2⟩⟩ := ih _ _ _ _ _ hb
            have vp : ∀ (l : List Nat) (ks : Kl) (row : List Nat), (∃ t, (visit (getA m) v l ks row).2 = row ++ t) ∧ ∃ t, (visit (getA m) v l ks row).1 = ks ++ t := by
              intro l
              induction l with
              | nil => intro ks row; exact ⟨⟨[], by simp [visit]⟩, ⟨[], by simp [visit]⟩⟩
              | cons o l ih =>
                intro ks row
                unfold visit
                split
                · exact ih ks row
                · obtain ⟨⟨t1, e1⟩, ⟨t2, e2⟩⟩ := ih (ks ++ [(o, v)]) (match getA m o with | some w => row ++ [w] | none => row)
                  refine ⟨?_, ⟨(o, v) :: t2, by rw [e2]; simp⟩⟩
                  rw [e1]
                  cases getA m o with
                  | none => exact ⟨t1, rfl⟩
                  | some w => exact ⟨w :: t1, by simp⟩
            obtain ⟨⟨t3, e3⟩, ⟨t4, e4⟩⟩ := vp (nearB rs v) ks row
            exact ⟨⟨t3 ++ t1, by rw [e1, e3]; simp⟩, ⟨t4 ++ t2, by rw [e2, e4]; simp⟩⟩
      obtain ⟨⟨t1, q1⟩, ⟨t2, q2⟩⟩ := pre _ _ _ _ _ _ hb
      have hv : v < rs.length := by
        refine hr v ?_
        rw [q1]
        refine List.mem_append_left _ ?_
        have vp : ∀ (l : List Nat) (ks : Kl) (row : List Nat), v ∈ row → v ∈ (visit (getA m) v l ks row).2 := by
          intro l
          induction l with
          | nil => intro ks row h; exact h
          | cons o l ih =>
            intro ks row h
            unfold visit
            split
            · exact ih ks row h
            · refine ih _ _ ?_
              cases getA m o with
              | none => exact h
              | some w => exact List.mem_append_left _ h
        exact vp _ _ _ (List.mem_iff_getElem?.mpr ⟨kk, e⟩)
      have l1 : ks.length ≤ 2000 ∧ row.length ≤ 2000 := by
        obtain ⟨⟨t3, e3⟩, ⟨t4, e4⟩⟩ := pre (f + 1) kk ks ks' row row' (by unfold bfs; rw [e]; exact hb)
        rw [e3, List.length_append] at hk2
        rw [e4, List.length_append] at hk1
        omega
      have hnl := nearB_len (rs := rs) (i := v)
      obtain ⟨x1, hv1⟩ := visit_eq h n0 bg kk v (nearB rs v) ks row x e (by omega) (by omega)
      have hn := near_eq h hl hv ω.length
      have hrv := recv_pob (mt := "near") h (by rfl)
      have hix := intsD_at e
      have hlen : gLen (.lst (intsD row)) = .ok (.int (row.length : Int)) := by show Res.ok (D.int ((intsD row).length : Int)) = _; rw [intsD_len]
      have hdem : demote [] [Sl.val (D.obj k), bg, .own (.dK (encM ks)), .own (.lst (intsD row)), .val (.int (kk : Int)), x] = [Sl.val (D.obj k), bg, .own (.dK (encM ks)), .own (.lst (intsD row)), .val (.int (kk : Int)), x] := by
        simp [demote, dmS]
      obtain ⟨kk', x', ih⟩ := bfs_eq h hl n0 bg f (kk + 1) _ ks' _ row' x1 hb hr hk1 hk2
      refine ⟨kk', x', ?_⟩
      have hcast : ((kk : Int) + 1) = ((kk + 1 : Nat) : Int) := by omega
      rw [← ih]
      have step : spW n0 [.val (.obj k), bg, .own (.dK (encM ks)), .own (.lst (intsD row)), .val (.int (kk : Int)), x] ω = .nx [.val (.obj k), bg, .own (.dK (encM (visit (getA m) v (nearB rs v) ks row).1)), .own (.lst (intsD (visit (getA m) v (nearB rs v) ks row).2)), .val (.int ((kk + 1 : Nat) : Int)), x1] ω := by
        refine (sq_nx (ρ' := [.val (.obj k), bg, .own (.dK (encM (visit (getA m) v (nearB rs v) ks row).1)), .own (.lst (intsD (visit (getA m) v (nearB rs v) ks row).2)), .val (.int (kk : Int)), x1]) (ω' := ω) ?_).trans ?_
        · have hms : (iLst (mMeth "Pairing" "near" 2 fu_Pairing_near (mV 0) (aCons (m2 (mV 3) (mV 4) gIx) aNil))) [.val (.obj k), bg, .own (.dK (encM ks)), .own (.lst (intsD row)), .val (.int (kk : Int)), x] ω = .ok (intsD (nearB rs v)) := by
            generalize encM ks = E at *
            generalize intsD row = RW at *
            generalize intsD (nearB rs v) = NB at *
            simp [hix, hrv, hn]
          rw [← hv1]
          unfold sFor
          rw [hms]
          dsimp only
          rw [hdem]
        · rw [← hcast]
          generalize encM _ = E
          generalize intsD _ = RW
          simp
      have ht : spT [.val (.obj k), bg, .own (.dK (encM ks)), .own (.lst (intsD row)), .val (.int (kk : Int)), x] ω = .ok true := by
        generalize encM ks = E at *
        generalize intsD row = RW at *
        simp [-gLen, hlen, h1]
      conv => lhs; unfold mWh
      rw [ht]
      dsimp only
      rw [step]
theorem spread_eq (h : ω[k]? = some (pob rs m)) (hl : rs.length ≤ 90) {bg : List Nat} {ks : Kl} {row : List Nat} (hb : bfs (nearB rs) (getA m) 200 0 [] bg = some (ks, row)) (hr : ∀ v ∈ row, v < rs.length) (hk1 : ks.length ≤ 2000) (hk2 : row.length ≤ 2000) (n0 : Nat) :
    fu_Pairing_spread n0 [.obj k, .lst (intsD bg)] ω = .ok (.dK (encM ks)) ω := by
  obtain ⟨kk', x', e⟩ := bfs_eq h (by omega) n0 (.val (.lst (intsD bg))) 200 0 [] ks bg row .no hb hr hk1 hk2
  have e : mWh spT spW 200 n0 [.val (.obj k), .val (.lst (intsD bg)), .own (.dK []), .own (.lst (intsD bg)), .val (.int 0), .no] ω = .nx [.val (.obj k), .val (.lst (intsD bg)), .own (.dK (encM ks)), .own (.lst (intsD row)), kk', x'] ω := e
  have hf : D.frees (intsD bg) = true := intsD_free
  generalize encM ks = E at *
  generalize intsD row = RW at *
  generalize intsD bg = BG at *
  show toRR (m_Pairing_spread n0 [.val (.obj k), .val (.lst BG), .no, .no, .no, .no] ω) = _
  have e0 : m_Pairing_spread n0 [.val (.obj k), .val (.lst BG), .no, .no, .no, .no] ω = .rt (.dK E) ω := by
    unfold m_Pairing_spread
    refine (sq_nx (ρ' := [.val (.obj k), .val (.lst BG), .own (.dK []), .no, .no, .no]) (ω' := ω) (by simp [demote, dmS])).trans ?_
    refine (sq_nx (ρ' := [.val (.obj k), .val (.lst BG), .own (.dK []), .own (.lst BG), .no, .no]) (ω' := ω) (by simp [hf])).trans ?_
    refine (sq_nx (ρ' := [.val (.obj k), .val (.lst BG), .own (.dK []), .own (.lst BG), .val (.int 0), .no]) (ω' := ω) (by simp)).trans ?_
    refine (sq_nx (ρ' := [.val (.obj k), .val (.lst BG), .own (.dK E), .own (.lst RW), kk', x']) (ω' := ω) e).trans ?_
    simp
  rw [e0]; rfl
end

section
variable {rs : Rw} {m : Kl} {ω : Store} {k : Nat}
abbrev grT : Env' → Store → Res Bool := b2 (mV 5) (mV 1) gNe
noncomputable abbrev grB : T := (sq (sSet 6 ([] ++ []) (m2 (mFld "Pairing" "mates" (mV 0)) (mV 5) gIx))
    (sq (sPutF "Pairing" "mates" [5] (mV 0) (mV 4) (mV 5))
    (sq (sPutF "Pairing" "mates" [4] (mV 0) (mV 5) (mV 4))
    (sq (sSet 4 [6] (mV 6))
    (sSet 5 ([] ++ []) (m2 (mV 2) (mV 4) gIx))))))
noncomputable abbrev grE : T := (sq (sPutF "Pairing" "mates" [1] (mV 0) (mV 4) (mV 1))
    (sPutF "Pairing" "mates" [4] (mV 0) (mV 1) (mV 4)))
theorem put_len {i j : Nat} : (putA m i j).length ≤ m.length + 1 := by
  unfold putA
  split
  · rw [List.length_map]; omega
  · rw [List.length_append, List.length_singleton]; omega
theorem set_at (h : ω[k]? = some (pob rs m)) (o : Ob) : (ω.set k o)[k]? = some o := by
  rw [List.getElem?_set_self (List.getElem?_eq_some_iff.mp h).1]
theorem putF_eq {n0 : Nat} {x y : Nat} {B : List Nat} {mk mv : M} {ρ : Env'} (h : ω[k]? = some (pob rs m)) (hn : n0 ≤ k) (h0 : ρ[0]? = some (.val (.obj k))) (h1 : mk ρ ω = .ok (.int (x : Int))) (h2 : mv ρ ω = .ok (.int (y : Int))) (hm : m.length < 1000000) :
    sPutF "Pairing" "mates" B (mV 0) mk mv n0 ρ ω = .nx ρ (ω.set k (pob rs (putA m x y))) := by
  unfold sPutF
  rw [h2]
  dsimp only [ofE]
  have e0 : dem B (.int (y : Int)) ρ = ρ := rfl
  rw [e0]
  have e1 : mV 0 ρ ω = .ok (.obj k) := by
    unfold mV
    rw [h0]
  rw [e1]
  dsimp only
  rw [own_mates h hn]
  dsimp only
  rw [h1]
  dsimp only
  rw [gPut_enc hm]
  dsimp only
  rw [st_mates]
theorem flip_eq (a0 n0 : Nat) (hn : n0 ≤ k) (ks : Kl) (e3 : Sl) : ∀ (f : Nat) (m : Kl) (ω : Store) (o hh : Nat) (x6 : Sl) (ν : Nat → Option Nat), ω[k]? = some (pob rs m) → flipG ks [a0] f (getA m) o = some ν → getA ks o = some hh → (m.map (·.1)).Nodup → m.length + 2 * f < 100000 →
    ∃ m' s4 s5 s6, sq (mWh grT grB f) grE n0 [.val (.obj k), .val (.int (a0 : Int)), .val (.dK (encM ks)), e3, .val (.int (o : Int)), .val (.int (hh : Int)), x6] ω
      = .nx [.val (.obj k), .val (.int (a0 : Int)), .val (.dK (encM ks)), e3, s4, s5, s6] (ω.set k (pob rs m')) ∧ getA m' = ν ∧ (m'.map (·.1)).Nodup
  | 0, m, ω, o, hh, x6, ν, h, hb, hg, hd, hl => by cases hb
  | f + 1, m, ω, o, hh, x6, ν, h, hb, hg, hd, hl => by
    unfold flipG at hb
    rw [hg] at hb
    dsimp only at hb
    by_cases c : hh = a0
    · subst c
      rw [if_pos List.mem_cons_self] at hb
      cases hb
      refine ⟨putA (putA m o hh) hh o, .val (.int (o : Int)), .val (.int (hh : Int)), x6, ?_, by rw [getA_put, getA_put], put_keys (put_keys hd)⟩
      have e1 : mWh grT grB (f + 1) n0 [.val (.obj k), .val (.int (hh : Int)), .val (.dK (encM ks)), e3, .val (.int (o : Int)), .val (.int (hh : Int)), x6] ω = .nx [.val (.obj k), .val (.int (hh : Int)), .val (.dK (encM ks)), e3, .val (.int (o : Int)), .val (.int (hh : Int)), x6] ω := by
        generalize encM ks = E at *
        unfold mWh
        simp
      rw [sq_nx e1]
      generalize encM ks = E at *
      have p1 : sPutF "Pairing" "mates" [1] (mV 0) (mV 4) (mV 1) n0 [.val (.obj k), .val (.int (hh : Int)), .val (.dK E), e3, .val (.int (o : Int)), .val (.int (hh : Int)), x6] ω = _ := putF_eq (x := o) (y := hh) h hn rfl rfl rfl (by omega)
      unfold grE
      rw [sq_nx p1]
      have l1 := put_len (m := m) (i := o) (j := hh)
      have p2 : sPutF "Pairing" "mates" [4] (mV 0) (mV 1) (mV 4) n0 [.val (.obj k), .val (.int (hh : Int)), .val (.dK E), e3, .val (.int (o : Int)), .val (.int (hh : Int)), x6] (ω.set k (pob rs (putA m o hh))) = _ := putF_eq (x := hh) (y := o) (set_at h _) hn rfl rfl rfl (by omega)
      rw [p2, List.set_set]
    · rw [if_neg (by simpa using c)] at hb
      cases e : getA m hh with
      | none => rw [e] at hb; cases hb
      | some fu =>
        rw [e] at hb
        dsimp only at hb
        cases f with
        | zero => cases hb
        | succ f =>
        have e2 : ∃ h', getA ks fu = some h' := by
          unfold flipG at hb
          cases z : getA ks fu with
          | none => rw [z] at hb; cases hb
          | some h' => exact ⟨h', rfl⟩
        obtain ⟨h', e2⟩ := e2
        have l1 := put_len (m := m) (i := o) (j := hh)
        have l2 := put_len (m := putA m o hh) (i := hh) (j := o)
        have hb2 : flipG ks [a0] (f + 1) (getA (putA (putA m o hh) hh o)) fu = some ν := by rw [getA_put, getA_put]; exact hb
        obtain ⟨m', s4, s5, s6, r1, r2, r3⟩ := flip_eq a0 n0 hn ks e3 (f + 1) (putA (putA m o hh) hh o) (ω.set k (pob rs (putA (putA m o hh) hh o))) fu h' (.val (.int (fu : Int))) ν (set_at h _) hb2 e2 (put_keys (put_keys hd)) (by omega)
        refine ⟨m', s4, s5, s6, ?_, r2, r3⟩
        rw [List.set_set] at r1
        rw [← r1]
        have gk := gIx_enc e2
        have gm := gIx_enc e
        have hf := fld_mates h
        generalize encM ks = E at *
        have tst : grT [.val (.obj k), .val (.int (a0 : Int)), .val (.dK E), e3, .val (.int (o : Int)), .val (.int (hh : Int)), x6] ω = .ok true := by
          have c' : ¬ (hh : Int) = (a0 : Int) := by omega
          simp [c']
        have bd : grB n0 [.val (.obj k), .val (.int (a0 : Int)), .val (.dK E), e3, .val (.int (o : Int)), .val (.int (hh : Int)), x6] ω = .nx [.val (.obj k), .val (.int (a0 : Int)), .val (.dK E), e3, .val (.int (fu : Int)), .val (.int (h' : Int)), .val (.int (fu : Int))] (ω.set k (pob rs (putA (putA m o hh) hh o))) := by
          have p1 : sPutF "Pairing" "mates" [5] (mV 0) (mV 4) (mV 5) n0 [.val (.obj k), .val (.int (a0 : Int)), .val (.dK E), e3, .val (.int (o : Int)), .val (.int (hh : Int)), .val (.int (fu : Int))] ω = _ := putF_eq (x := o) (y := hh) h hn rfl rfl rfl (by omega)
          have p2 : sPutF "Pairing" "mates" [4] (mV 0) (mV 5) (mV 4) n0 [.val (.obj k), .val (.int (a0 : Int)), .val (.dK E), e3, .val (.int (o : Int)), .val (.int (hh : Int)), .val (.int (fu : Int))] (ω.set k (pob rs (putA m o hh))) = _ := putF_eq (x := hh) (y := o) (set_at h _) hn rfl rfl rfl (by omega)
          rw [List.set_set] at p2
          unfold grB
          refine (sq_nx (ρ' := [.val (.obj k), .val (.int (a0 : Int)), .val (.dK E), e3, .val (.int (o : Int)), .val (.int (hh : Int)), .val (.int (fu : Int))]) (ω' := ω) ?_).trans ?_
          · generalize encM m = EM at *
            simp [mFld, hf, gm]
          rw [sq_nx p1, sq_nx p2]
          generalize ω.set k _ = ω2
          simp [gk]
        conv => lhs; unfold sq; unfold mWh
        rw [tst]
        dsimp only
        rw [bd]
        rfl
theorem intsD_eq_nil {l : List Nat} : gEq (.lst (intsD l)) (.lst []) = .ok (.bl l.isEmpty) := by
  cases l <;> rfl
theorem ints_intsD {l : List Nat} : D.ints? (intsD l) = some (l.map fun (i : Nat) => (i : Int)) := by
  induction l with
  | nil => rfl
  | cons a l ih =>
    show (D.ints? (intsD l)).map ((a : Int) :: ·) = _
    rw [ih]; rfl
theorem gMinL_intsD {l : List Nat} (h : l ≠ []) : ∃ x, gMinL (.lst (intsD l)) = .ok (.int ((x : Nat) : Int)) ∧ x ∈ l ∧ ∀ y ∈ l, x ≤ y := by
  cases l with
  | nil => exact absurd rfl h
  | cons a l =>
    have e : gMinL (.lst (intsD (a :: l))) = .ok (.int (((a :: l).map fun (i : Nat) => (i : Int)).foldl (fun a b => if b < a then b else a) (a : Int))) := by
      unfold gMinL
      dsimp only
      rw [ints_intsD]
      rfl
    obtain ⟨h1, h2, h3⟩ := foldmin_le ((a :: l).map fun (i : Nat) => (i : Int)) (a : Int)
    have hm : ((a :: l).map fun (i : Nat) => (i : Int)).foldl (fun a b => if b < a then b else a) (a : Int) ∈ (a :: l).map fun (i : Nat) => (i : Int) := by
      rcases h3 with h3 | h3
      · rw [h3]; simp
      · exact h3
    obtain ⟨x, hx, ex⟩ := List.mem_map.mp hm
    refine ⟨x, by rw [e, ex], hx, fun y hy => ?_⟩
    have := h2 (y : Int) (List.mem_map.mpr ⟨y, hy, rfl⟩)
    rw [← ex] at this
    omega
def endsB (m ks : Kl) : List Nat := (ks.map (·.1)).filter fun o => (getA m o).isNone
theorem enc_keys {ks : Kl} : ((encM ks).map fun kv => kD kv.1) = intsD (ks.map (·.1)) := by
  unfold encM intsD
  rw [List.map_map, List.map_map]
  rfl
theorem ends_eq (h : ω[k]? = some (pob rs m)) {ks : Kl} (hk : ks.length ≤ 1000) {a s3 s5 s6 : Sl} : mCompK 4 (mVal 2) (b2 (mV 4) (mFld "Pairing" "mates" (mV 0)) gNotIn) (mV 4) [.val (.obj k), a, .val (.dK (encM ks)), s3, .no, s5, s6] ω = .ok (.lst (intsD (endsB m ks))) := by
  unfold mCompK
  rw [if_pos (by show 4 < 7; decide)]
  have e1 : mVal 2 [.val (.obj k), a, .val (.dK (encM ks)), s3, .no, s5, s6] ω = .ok (.dK (encM ks)) := rfl
  rw [e1]
  dsimp only
  rw [if_pos (by rw [enc_len]; exact hk), enc_keys]
  have hf := fld_mates h
  have hd : demote [] [.val (.obj k), a, .val (.dK (encM ks)), s3, .no, s5, s6] = [.val (.obj k), a, .val (.dK (encM ks)), s3, .no, s5, s6] := by simp [demote, dmS]
  rw [hd]
  rw [compL_filt (p := fun o => (getA m o).isNone) (fun x _ => by
    have e := gNotIn_enc (m := m) (x := x)
    generalize encM m = EM at *
    generalize encM ks = E at *
    simp [mFld, hf, e]) (fun x _ => by
    generalize encM ks = E at *
    simp)]
  rfl
theorem grow_none (h : ω[k]? = some (pob rs m)) (hl : rs.length ≤ 90) {a0 : Nat} {ks : Kl} {row : List Nat} (hb : bfs (nearB rs) (getA m) 200 0 [] [a0] = some (ks, row)) (hr : ∀ v ∈ row, v < rs.length) (hk1 : ks.length ≤ 1000) (hk2 : row.length ≤ 1000) (n0 : Nat)
    (he : endsB m ks = []) : fu_Pairing_grow n0 [.obj k, .int (a0 : Int)] ω = .ok .non ω := by
  have hs := spread_eq h hl hb hr (by omega) (by omega) ω.length
  have hv := recv_pob (mt := "spread") h (by rfl)
  have hs : fu_Pairing_spread ω.length [.obj k, .lst [.int (a0 : Int)]] ω = .ok (.dK (encM ks)) ω := hs
  show toRR (m_Pairing_grow n0 [.val (.obj k), .val (.int (a0 : Int)), .no, .no, .no, .no, .no] ω) = _
  have e0 : m_Pairing_grow n0 [.val (.obj k), .val (.int (a0 : Int)), .no, .no, .no, .no, .no] ω = .rt .non ω := by
    unfold m_Pairing_grow
    refine (sq_nx (ρ' := [.val (.obj k), .val (.int (a0 : Int)), .val (.dK (encM ks)), .no, .no, .no, .no]) (ω' := ω) ?_).trans ?_
    · generalize encM ks = E at *
      simp [hv, hs, demote, dmS]
    refine (sq_nx (ρ' := [.val (.obj k), .val (.int (a0 : Int)), .val (.dK (encM ks)), .own (.lst (intsD (endsB m ks))), .no, .no, .no]) (ω' := ω) ?_).trans ?_
    · unfold sSetO
      rw [ends_eq h hk1]
      dsimp only [ofE]
      have hf : D.frees (intsD (endsB m ks)) = true := intsD_free
      simp [hf]
    · refine sq_rt ?_
      have hq := intsD_eq_nil (l := endsB m ks)
      rw [he] at hq ⊢
      generalize encM ks = E at *
      simp [gEq, gEqS, gEqL, intsD]
  rw [e0]; rfl
theorem grow_some (h : ω[k]? = some (pob rs m)) (hl : rs.length ≤ 90) {a0 : Nat} {ks : Kl} {row : List Nat} (hb : bfs (nearB rs) (getA m) 200 0 [] [a0] = some (ks, row)) (hr : ∀ v ∈ row, v < rs.length) (hk1 : ks.length ≤ 1000) (hk2 : row.length ≤ 1000) {n0 : Nat} (hn : n0 ≤ k)
    {o : Nat} {hh : Nat} (ho : o ∈ endsB m ks) (hmin : ∀ y ∈ endsB m ks, o ≤ y) (hg : getA ks o = some hh) {ν : Nat → Option Nat} (hfl : flipG ks [a0] 200 (getA m) o = some ν) (hd : (m.map (·.1)).Nodup) (hm : m.length < 1000) :
    ∃ m', fu_Pairing_grow n0 [.obj k, .int (a0 : Int)] ω = .ok .non (ω.set k (pob rs m')) ∧ getA m' = ν ∧ (m'.map (·.1)).Nodup := by
  have hs := spread_eq h hl hb hr (by omega) (by omega) ω.length
  have hv := recv_pob (mt := "spread") h (by rfl)
  have hs : fu_Pairing_spread ω.length [.obj k, .lst [.int (a0 : Int)]] ω = .ok (.dK (encM ks)) ω := hs
  have hne : endsB m ks ≠ [] := fun z => by rw [z] at ho; cases ho
  obtain ⟨x, hx, hx1, hx2⟩ := gMinL_intsD hne
  have hxo : x = o := Nat.le_antisymm (hx2 o ho) (hmin x hx1)
  subst hxo
  obtain ⟨m', s4, s5, s6, r1, r2, r3⟩ := flip_eq a0 n0 hn ks (.own (.lst (intsD (endsB m ks)))) 200 m ω x hh .no ν h hfl hg hd (by omega)
  refine ⟨m', ?_, r2, r3⟩
  show toRR (m_Pairing_grow n0 [.val (.obj k), .val (.int (a0 : Int)), .no, .no, .no, .no, .no] ω) = _
  have e0 : m_Pairing_grow n0 [.val (.obj k), .val (.int (a0 : Int)), .no, .no, .no, .no, .no] ω = .nx [.val (.obj k), .val (.int (a0 : Int)), .val (.dK (encM ks)), .own (.lst (intsD (endsB m ks))), s4, s5, s6] (ω.set k (pob rs m')) := by
    unfold m_Pairing_grow
    refine (sq_nx (ρ' := [.val (.obj k), .val (.int (a0 : Int)), .val (.dK (encM ks)), .no, .no, .no, .no]) (ω' := ω) ?_).trans ?_
    · generalize encM ks = E at *
      simp [hv, hs, demote, dmS]
    refine (sq_nx (ρ' := [.val (.obj k), .val (.int (a0 : Int)), .val (.dK (encM ks)), .own (.lst (intsD (endsB m ks))), .no, .no, .no]) (ω' := ω) ?_).trans ?_
    · unfold sSetO
      rw [ends_eq h hk1]
      dsimp only [ofE]
      have hf : D.frees (intsD (endsB m ks)) = true := intsD_free
      simp [hf]
    refine (sq_nx (ρ' := [.val (.obj k), .val (.int (a0 : Int)), .val (.dK (encM ks)), .own (.lst (intsD (endsB m ks))), .no, .no, .no]) (ω' := ω) ?_).trans ?_
    · have hq := intsD_eq_nil (l := endsB m ks)
      have hz : (endsB m ks).isEmpty = false := by
        cases z : endsB m ks with
        | nil => exact absurd z hne
        | cons a l => rfl
      rw [hz] at hq
      generalize encM ks = E at *
      generalize intsD (endsB m ks) = ED at *
      simp [hq]
    refine (sq_nx (ρ' := [.val (.obj k), .val (.int (a0 : Int)), .val (.dK (encM ks)), .own (.lst (intsD (endsB m ks))), .val (.int (x : Int)), .no, .no]) (ω' := ω) ?_).trans ?_
    · generalize encM ks = E at *
      generalize intsD (endsB m ks) = ED at *
      simp [hx]
    refine (sq_nx (ρ' := [.val (.obj k), .val (.int (a0 : Int)), .val (.dK (encM ks)), .own (.lst (intsD (endsB m ks))), .val (.int (x : Int)), .val (.int (hh : Int)), .no]) (ω' := ω) ?_).trans ?_
    · have gk := gIx_enc hg
      generalize encM ks = E at *
      generalize intsD (endsB m ks) = ED at *
      simp [gk]
    exact r1
  rw [e0]; rfl
end

def kdB (rs : Rw) (i : Nat) : Bool := match rs[i]? with
  | some r => decide (r.1 = "necklace")
  | none => false
structure PInv (rs : Rw) (m : Kl) : Prop where
  kinds : ∀ r ∈ rs, r.1 = "necklace" ∨ r.1 = "armring"
  nd : (m.map (·.1)).Nodup
  mat : Mat (fitB rs) rs.length (getA m)
  gr : Gr (fitB rs) (kdB rs) rs.length (getA m)
theorem fit_some {rs : Rw} {i j : Nat} (h : fitB rs i j = true) : ∃ a b, rs[min i j]? = some a ∧ rs[max i j]? = some b ∧ a.1 ≠ b.1 ∧ a.2 ≤ b.2 := by
  unfold fitB at h
  cases e1 : rs[min i j]? with
  | none => rw [e1] at h; cases h
  | some a =>
    rw [e1] at h
    cases e2 : rs[max i j]? with
    | none => rw [e2] at h; cases h
    | some b =>
      rw [e2] at h
      dsimp only at h
      rw [Bool.and_eq_true, Bool.not_eq_true', decide_eq_false_iff_not, decide_eq_true_eq] at h
      exact ⟨a, b, rfl, rfl, h.1, h.2⟩
theorem gphB {rs : Rw} (hk : ∀ r ∈ rs, r.1 = "necklace" ∨ r.1 = "armring") : Gph (fitB rs) (kdB rs) where
  sym := fun i j h => by
    unfold fitB at *
    rw [Nat.min_comm j i, Nat.max_comm j i]
    exact h
  kd := fun i j h => by
    obtain ⟨a, b, e1, e2, h1, _⟩ := fit_some h
    have ha := hk a (List.mem_iff_getElem?.mpr ⟨_, e1⟩)
    have hb := hk b (List.mem_iff_getElem?.mpr ⟨_, e2⟩)
    have hne : ("armring" : Str) ≠ "necklace" := by decide
    have key : decide (a.1 = "necklace") = !decide (b.1 = "necklace") := by
      rcases ha with ha | ha <;> rcases hb with hb | hb
      · exact absurd (ha.trans hb.symm) h1
      · rw [ha, hb]; rfl
      · rw [ha, hb]; rfl
      · exact absurd (ha.trans hb.symm) h1
    unfold kdB
    by_cases q : i ≤ j
    · rw [Nat.min_eq_left q] at e1
      rw [Nat.max_eq_right q] at e2
      rw [e1, e2]; exact key
    · rw [Nat.min_eq_right (by omega)] at e1
      rw [Nat.max_eq_left (by omega)] at e2
      rw [e1, e2]
      show decide (b.1 = "necklace") = !decide (a.1 = "necklace")
      rw [key, Bool.not_not]
theorem mat_congr {f g : Nat → Nat → Bool} {n : Nat} {μ : Nat → Option Nat} (h : ∀ i j, i < n → j < n → f i j = g i j) (M : Mat f n μ) : Mat g n μ :=
  ⟨M.sym, fun i j e => by rw [← h i j (M.lt _ _ e) (M.lt _ _ (M.sym _ _ e))]; exact M.fit _ _ e, M.lt⟩
theorem gr_congr {f g : Nat → Nat → Bool} {kd kd' : Nat → Bool} {n : Nat} {μ : Nat → Option Nat} (h : ∀ i j, i < n → j < n → f i j = g i j) (hk : ∀ i, i < n → kd i = kd' i) (G : Gr f kd n μ) : Gr g kd' n μ := fun y hy hm ⟨ν, N, c⟩ => G y hy hm ⟨ν, mat_congr (fun i j a b => (h i j a b).symm) N, fun i hi => c i (by
  rcases hi with hi | ⟨h1, h2, h3⟩
  · exact .inl hi
  · exact .inr ⟨by rw [← hk i (by omega), ← hk y hy]; exact h1, h2, h3⟩)⟩
theorem fit_app {rs t : Rw} {i j : Nat} (hi : i < rs.length) (hj : j < rs.length) : fitB rs i j = fitB (rs ++ t) i j := by
  unfold fitB
  rw [List.getElem?_append_left (by omega), List.getElem?_append_left (by omega)]
theorem kd_app {rs t : Rw} {i : Nat} (hi : i < rs.length) : kdB rs i = kdB (rs ++ t) i := by
  unfold kdB
  rw [List.getElem?_append_left hi]
section
variable {rs : Rw} {m : Kl} {ω : Store} {k : Nat}
theorem set_self (h : ω[k]? = some (pob rs m)) : ω.set k (pob rs m) = ω := by
  obtain ⟨hk, e⟩ := List.getElem?_eq_some_iff.mp h
  rw [← e, List.set_getElem_self]
theorem mat_len (hd : (m.map (·.1)).Nodup) (M : Mat (fitB rs) rs.length (getA m)) : m.length ≤ rs.length := by
  have := lt_len hd (n := rs.length) (fun x hx => by
    cases e : getA m x with
    | none => exact absurd e (getA_keys.mpr hx)
    | some y => exact M.lt _ _ e)
  rwa [List.length_map] at this
theorem rch_row {ks : Kl} {row bg : List Nat} (M : Mat (fitB rs) rs.length (getA m)) (S : Sp0 (fitB rs) rs.length (getA m) bg ks row) (hb : ∀ b ∈ bg, b < rs.length) : ∀ v ∈ row, v < rs.length := fun v hv => by
  rcases S.mem hv with h | ⟨j, c, hc, e⟩
  · exact hb v h
  · exact M.lt _ _ (M.sym _ _ e)
theorem near_iff : ∀ v o, o ∈ nearB rs v ↔ o < rs.length ∧ fitB rs v o = true := fun v o => nearB_iff
/-- one more gift finds its mate, or none -/
theorem grow_inv {n : Nat} (hkk : ∀ r ∈ rs, r.1 = "necklace" ∨ r.1 = "armring") (hln : rs.length = n + 1) (hd : (m.map (·.1)).Nodup) (M : Mat (fitB rs) n (getA m)) (G : Gr (fitB rs) (kdB rs) n (getA m)) (h : ω[k]? = some (pob rs m)) {n0 : Nat} (hn : n0 ≤ k) (hl : rs.length ≤ 90) :
    ∃ m', fu_Pairing_grow n0 [.obj k, .int (n : Int)] ω = .ok .non (ω.set k (pob rs m')) ∧ PInv rs m' ∧ ∀ x, getA m x ≠ none → getA m' x ≠ none := by
  have g := gphB hkk
  have M1 : Mat (fitB rs) rs.length (getA m) := M.wide (by omega)
  have hz : getA m n = none := M.none_ge (Nat.le_refl _)
  obtain ⟨ks, row, hb, S⟩ := reach (fit := fitB rs) (n := rs.length) (μ := getA m) (bg := [n]) (near := nearB rs) near_iff (f := 200) (by rw [List.length_singleton]; omega)
  have hbg : ∀ b ∈ [n], kdB rs b = kdB rs n ∧ getA m b = none ∧ b < rs.length := fun b hb => by
    have : b = n := by simpa using hb
    subst this
    exact ⟨rfl, hz, by omega⟩
  have hlen := S.toSp0.len
  rw [List.length_singleton] at hlen
  have hrow := rch_row M1 S.toSp0 (fun b hb => (hbg b hb).2.2)
  have hml := mat_len hd M1
  by_cases he : endsB m ks = []
  · refine ⟨m, ?_, ⟨hkk, hd, M1, ?_⟩, fun x h => h⟩
    · rw [set_self h]
      exact grow_none h hl hb hrow (by omega) (by omega) n0 he
    · have S' := S
      rw [hln] at S' ⊢
      refine gr_fail g M G S' fun p hp q => ?_
      have : p.1 ∈ endsB m ks := List.mem_filter.mpr ⟨List.mem_map.mpr ⟨p, hp, rfl⟩, by rw [q]; rfl⟩
      rw [he] at this; cases this
  · obtain ⟨x, _, hx1, hx2⟩ := gMinL_intsD he
    obtain ⟨hxk, hxn⟩ := List.mem_filter.mp hx1
    have hxn : getA m x = none := by
      cases e : getA m x with
      | none => rfl
      | some w => rw [e] at hxn; cases hxn
    obtain ⟨p, hp, ep⟩ := List.mem_map.mp hxk
    obtain ⟨i, hi⟩ := List.mem_iff_getElem?.mp hp
    have hi : ks[i]? = some (x, p.2) := by rw [← ep]; exact hi
    have hil := (List.getElem?_eq_some_iff.mp hi).1
    obtain ⟨ν, b, h1, h2, h3, h4⟩ := flip_ok g M1 S.toSp0 hbg 200 i (getA m) x p.2 (by omega) hi
      ⟨fun x' y hx h => ⟨M1.sym _ _ h, fun q => by
        rw [q] at h
        have := M1.sym _ _ h
        rw [hxn] at this; cases this⟩, fun x y _ h => ⟨M1.fit _ _ h, M1.lt _ _ h⟩, fun _ _ _ _ => rfl, fun j c w _ _ h => M1.sym _ _ h⟩ (fun b h => (hbg b h).2.1)
    have hbn : b = n := by simpa using h3
    subst hbn
    obtain ⟨m', r1, r2, r3⟩ := grow_some h hl hb hrow (by omega) (by omega) hn hx1 hx2 (getA_of S.nd (List.mem_iff_getElem?.mpr ⟨i, hi⟩)) h1 hd (by omega)
    refine ⟨m', r1, ⟨hkk, r3, by rw [r2]; exact h2, ?_⟩, fun x h => by rw [r2]; exact (h4 x).mpr (.inl h)⟩
    rw [r2]
    have S' := S
    rw [hln] at S' ⊢
    refine gr_done g M G S' hxk hxn (fun y hy hyn => hx2 y (List.mem_filter.mpr ⟨hy, by rw [hyn]; rfl⟩)) h4
theorem gNotIn_kinds (t : Str) : gNotIn (.str t) (.ctup [.str "necklace", .str "armring"]) = .ok (.bl (!(decide (t = "necklace") || decide (t = "armring")))) := by
  have h1 : gNotIn (.str t) (.ctup [.str "necklace", .str "armring"]) = .ok (.bl (!([("necklace" : Str), "armring"].any fun s => decide (s = t)))) := rfl
  rw [h1]
  show Res.ok (D.bl (!(decide (("necklace" : Str) = t) || (decide (("armring" : Str) = t) || false)))) = _
  have e1 : decide (("necklace" : Str) = t) = decide (t = "necklace") := decide_eq_decide.mpr eq_comm
  have e2 : decide (("armring" : Str) = t) = decide (t = "armring") := decide_eq_decide.mpr eq_comm
  rw [e1, e2, Bool.or_false]
end

theorem dem_nil (ρ : Env') : demote [] ρ = ρ := by
  unfold demote
  apply List.ext_getElem?
  intro i
  rw [List.getElem?_mapIdx]
  cases ρ[i]? with
  | none => rfl
  | some s => simp [dmS]
/-! ### loops, by what they keep -/
theorem for_nx {i n0 : Nat} {b : T} {x : D} {xs : List D} {ρ ρ' : Env'} {ω ω' : Store} (hi : i < ρ.length) (h : b n0 (ρ.set i (.val x)) ω = .nx ρ' ω' ∨ b n0 (ρ.set i (.val x)) ω = .ct ρ' ω') : mFor (gN i) b (x :: xs) n0 ρ ω = mFor (gN i) b xs n0 ρ' ω' := by
  conv => lhs; unfold mFor
  have e : gN i x ρ = some (ρ.set i (.val x)) := if_pos hi
  rw [e]
  dsimp only
  rcases h with h | h <;> rw [h]
theorem for_all {i n0 : Nat} {b : T} (P : Nat → Env' → Store → Prop) : ∀ (xs : List D),
    (∀ (j : Nat) (x : D) (ρ : Env') (ω : Store), xs[j]? = some x → P j ρ ω → i < ρ.length ∧ ∃ ρ' ω', (b n0 (ρ.set i (.val x)) ω = .nx ρ' ω' ∨ b n0 (ρ.set i (.val x)) ω = .ct ρ' ω') ∧ P (j + 1) ρ' ω') →
    ∀ {ρ : Env'} {ω : Store}, P 0 ρ ω → ∃ ρ' ω', mFor (gN i) b xs n0 ρ ω = .nx ρ' ω' ∧ P xs.length ρ' ω' := by
  intro xs
  induction xs generalizing P with
  | nil => intro _ ρ ω h; exact ⟨ρ, ω, rfl, h⟩
  | cons x xs ih =>
    intro st ρ ω h
    obtain ⟨hi, ρ1, ω1, h1, h2⟩ := st 0 x ρ ω rfl h
    obtain ⟨ρ2, ω2, h3, h4⟩ := ih (fun j => P (j + 1)) (fun j y ρ ω hy hp => st (j + 1) y ρ ω (by rw [List.getElem?_cons_succ]; exact hy) hp) h2
    exact ⟨ρ2, ω2, by rw [for_nx hi h1, h3], h4⟩
theorem sfor_all {i n0 : Nat} {b : T} {B : List Nat} {ms : MA} {xs : List D} {ρ : Env'} {ω : Store} (P : Nat → Env' → Store → Prop) (hm : ms ρ ω = .ok xs) (h0 : P 0 (demote B ρ) ω)
    (st : ∀ (j : Nat) (x : D) (ρ : Env') (ω : Store), xs[j]? = some x → P j ρ ω → i < ρ.length ∧ ∃ ρ' ω', (b n0 (ρ.set i (.val x)) ω = .nx ρ' ω' ∨ b n0 (ρ.set i (.val x)) ω = .ct ρ' ω') ∧ P (j + 1) ρ' ω') :
    ∃ ρ' ω', sFor B ms (gN i) b n0 ρ ω = .nx ρ' ω' ∧ P xs.length ρ' ω' := by
  unfold sFor
  rw [hm]
  exact for_all P xs st h0
theorem ints_at {l : List Nat} {j : Nat} {x : D} (h : (intsD l)[j]? = some x) : ∃ v, l[j]? = some v ∧ x = .int (v : Int) := by
  unfold intsD at h
  rw [List.getElem?_map] at h
  cases e : l[j]? with
  | none => rw [e] at h; cases h
  | some v => rw [e] at h; exact ⟨v, rfl, (Option.some.inj h).symm⟩
theorem rng_at {n j : Nat} {x : D} (h : (rangeD 0 n)[j]? = some x) : j < n ∧ x = .int (j : Int) := by
  rw [range_ints] at h
  obtain ⟨v, h1, h2⟩ := ints_at h
  rw [List.getElem?_range] at h1
  · cases h1
    exact ⟨by
      have := (List.getElem?_eq_some_iff.mp h).1
      rw [intsD_len, List.length_range] at this
      exact this, h2⟩
  · have := (List.getElem?_eq_some_iff.mp h1).1
    rw [List.length_range] at this
    exact this
theorem nsD_at {ns : List Int} {j : Nat} {x : D} (h : (ns.map D.int)[j]? = some x) : ∃ v, x = .int v := by
  rw [List.getElem?_map] at h
  cases e : ns[j]? with
  | none => rw [e] at h; cases h
  | some v => rw [e] at h; exact ⟨v, (Option.some.inj h).symm⟩
theorem cut_take {α : Type} (l : List α) (p : Nat) : cutD l none (some (p : Int)) = l.take p := by
  unfold DL.cutD
  rw [HT.sIx_none, HT.sIx_nat, List.drop_zero, Nat.sub_zero]
  rcases Nat.le_total p l.length with h | h
  · rw [Nat.min_eq_left h]
  · rw [Nat.min_eq_right h, List.take_of_length_le (Nat.le_refl _), List.take_of_length_le h]
theorem cut_drop {α : Type} (l : List α) (p : Nat) : cutD l (some (p : Int)) none = l.drop p := by
  unfold DL.cutD
  rw [HT.sIx_none, HT.sIx_nat]
  rcases Nat.le_total p l.length with h | h
  · rw [Nat.min_eq_left h]
    exact List.take_of_length_le (by rw [List.length_drop]; omega)
  · rw [Nat.min_eq_right h, List.drop_of_length_le h, List.drop_of_length_le (Nat.le_refl _), List.take_nil]
theorem sl_rows_to {rs : Rw} {p : Nat} : gSl (rowsD rs) none (some (p : Int)) = .ok (rowsD (rs.take p)) := by
  show Res.ok (D.lst (cutD (rs.map rowD) none (some (p : Int)))) = _
  rw [cutD_map, cut_take]; rfl
theorem sl_ints_from {ns : List Int} {p : Nat} : gSl (.lst (ns.map .int)) (some (p : Int)) none = .ok (.lst ((ns.drop p).map .int)) := by
  show Res.ok (D.lst (cutD (ns.map .int) (some (p : Int)) none)) = _
  rw [cutD_map, cut_drop]
theorem sq_step {G : RS → Prop} {a b : T} {n0 : Nat} {ρ ρ' : Env'} {ω ω' : Store} (h : a n0 ρ ω = .nx ρ' ω') (g : G (b n0 ρ' ω')) : G (sq a b n0 ρ ω) := by rw [sq_nx h]; exact g
theorem sq_sfor {G : RS → Prop} {i n0 : Nat} {b r : T} {B : List Nat} {ms : MA} {xs : List D} {ρ : Env'} {ω : Store} (P : Nat → Env' → Store → Prop) (hm : ms ρ ω = .ok xs) (h0 : P 0 (demote B ρ) ω)
    (st : ∀ (j : Nat) (x : D) (ρ : Env') (ω : Store), xs[j]? = some x → P j ρ ω → i < ρ.length ∧ ∃ ρ' ω', (b n0 (ρ.set i (.val x)) ω = .nx ρ' ω' ∨ b n0 (ρ.set i (.val x)) ω = .ct ρ' ω') ∧ P (j + 1) ρ' ω')
    (hr : ∀ ρ' ω', P xs.length ρ' ω' → G (r n0 ρ' ω')) : G (sq (sFor B ms (gN i) b) r n0 ρ ω) := by
  obtain ⟨ρ', ω', e, h⟩ := sfor_all P hm h0 st
  rw [sq_nx e]
  exact hr ρ' ω' h
abbrev GT (r : RS) : Prop := ∃ ω, toRR r = .ok (.bl true) ω
theorem init_eq {ω : Store} {n0 : Nat} (hn : n0 ≤ ω.length) : fu_Pairing___init__ n0 [.obj ω.length] (ω ++ [⟨"Pairing", []⟩]) = .ok .non (ω ++ [pob [] []]) := by
  have e1 : objAt "Pairing" n0 (ω ++ [⟨"Pairing", []⟩]) (.obj ω.length) = some (ω.length, ⟨"Pairing", []⟩) := by
    unfold objAt
    dsimp only
    rw [List.getElem?_concat_length]
    exact if_pos ⟨rfl, hn, by show 0 < 1000; decide⟩
  have s1 : stF "Pairing" "rows" (ω ++ [⟨"Pairing", []⟩]) ω.length ⟨"Pairing", []⟩ (.own (.lst [])) = ω ++ [⟨"Pairing", [("rows", .own (.lst []))]⟩] := by
    unfold stF
    rw [List.set_append_right _ _ (Nat.le_refl _), Nat.sub_self]
    rfl
  have e2 : objAt "Pairing" n0 (ω ++ [⟨"Pairing", [("rows", .own (.lst []))]⟩]) (.obj ω.length) = some (ω.length, ⟨"Pairing", [("rows", .own (.lst []))]⟩) := by
    unfold objAt
    dsimp only
    rw [List.getElem?_concat_length]
    exact if_pos ⟨rfl, hn, by show 1 < 1000; decide⟩
  have s2 : stF "Pairing" "mates" (ω ++ [⟨"Pairing", [("rows", .own (.lst []))]⟩]) ω.length ⟨"Pairing", [("rows", .own (.lst []))]⟩ (.own (.dK [])) = ω ++ [pob [] []] := by
    unfold stF
    rw [List.set_append_right _ _ (Nat.le_refl _), Nat.sub_self]
    rfl
  simp only [fu_Pairing___init__, m_Pairing___init__, fuOf, envS]
  simp [e1, s1, e2, s2]
theorem make_eq {ω : Store} {n0 i : Nat} {ρ : Env'} (hn : n0 ≤ ω.length) (hi : i < ρ.length) : sSetX i (xMake "Pairing" 1 fu_Pairing___init__ (xaP [] aNil)) n0 ρ ω = .nx (ρ.set i (.val (.obj ω.length))) (ω ++ [pob [] []]) := by
  have e := init_eq hn
  generalize fu_Pairing___init__ = f at *
  simp [e, mkX, hn, hi, demA]
theorem pinv0 : PInv [] [] := ⟨fun r h => (nomatch h), List.nodup_nil, mat_start _, gr_start _ _⟩

section
variable {rs : Rw} {m : Kl} {ω : Store} {k : Nat}
abbrev BK : Er := ⟨"BadKind", "bad kind"⟩
abbrev BR : Er := ⟨"BadRank", "bad rank"⟩
theorem add_badkind {t : Str} (h1 : t ≠ "necklace") (h2 : t ≠ "armring") (n0 : Nat) (x : D) : fu_Pairing_add n0 [.obj k, .str t, x] ω = .er BK ω := by
  have e := gNotIn_kinds t
  rw [decide_eq_false h1, decide_eq_false h2] at e
  show toRR (m_Pairing_add n0 [.val (.obj k), .val (.str t), .val x, .no] ω) = _
  unfold m_Pairing_add
  rw [sq_er (d := BK) (ω' := ω) (by simp [e])]
  rfl
theorem add_badrank {t : Str} (ht : t = "necklace" ∨ t = "armring") {x : Int} (hx : x < 1) (n0 : Nat) : fu_Pairing_add n0 [.obj k, .str t, .int x] ω = .er BR ω := by
  have e := gNotIn_kinds t
  have e2 : (decide (t = "necklace") || decide (t = "armring")) = true := by rw [Bool.or_eq_true, decide_eq_true_eq, decide_eq_true_eq]; exact ht
  rw [e2] at e
  show toRR (m_Pairing_add n0 [.val (.obj k), .val (.str t), .val (.int x), .no] ω) = _
  have e0 : m_Pairing_add n0 [.val (.obj k), .val (.str t), .val (.int x), .no] ω = .er BR ω := by
    unfold m_Pairing_add
    refine (sq_nx (ρ' := [.val (.obj k), .val (.str t), .val (.int x), .no]) (ω' := ω) ?_).trans ?_
    · simp [e]
    · refine sq_er ?_
      simp [hx]
  rw [e0]; rfl
theorem rowsD_app {r : Str × Int} : rowsD (rs ++ [r]) = .lst (rs.map rowD ++ [rowD r]) := by
  unfold rowsD
  rw [List.map_append]; rfl
theorem add_eq (I : PInv rs m) (h : ω[k]? = some (pob rs m)) {n0 : Nat} (hn : n0 ≤ k) (hl : rs.length < 80) {t : Str} {x : Int} (ht : t = "necklace" ∨ t = "armring") (hx : 1 ≤ x) :
    ∃ m', fu_Pairing_add n0 [.obj k, .str t, .int x] ω = .ok (.int (rs.length : Int)) (ω.set k (pob (rs ++ [(t, x)]) m')) ∧ PInv (rs ++ [(t, x)]) m' ∧ ∀ x, getA m x ≠ none → getA m' x ≠ none := by
  have e := gNotIn_kinds t
  have e2 : (decide (t = "necklace") || decide (t = "armring")) = true := by rw [Bool.or_eq_true, decide_eq_true_eq, decide_eq_true_eq]; exact ht
  rw [e2] at e
  have hlen : (rs ++ [(t, x)]).length = rs.length + 1 := by rw [List.length_append, List.length_singleton]
  have h2 : (ω.set k (pob (rs ++ [(t, x)]) m))[k]? = some (pob (rs ++ [(t, x)]) m) := set_at h _
  obtain ⟨m', g1, g2, g3⟩ := grow_inv (n := rs.length) (fun r hr => by
      rcases List.mem_append.mp hr with hr | hr
      · exact I.kinds r hr
      · have : r = (t, x) := by simpa using hr
        rw [this]; exact ht) hlen I.nd (mat_congr (fun i j a b => fit_app a b) I.mat) (gr_congr (fun i j a b => fit_app a b) (fun i a => kd_app a) I.gr) h2 hn (by omega)
  rw [List.set_set] at g1
  refine ⟨m', ?_, g2, g3⟩
  have hv := recv_pob (mt := "grow") h2 (by rfl)
  have hr := fld_rows h
  have hlr := rows_len (rs := rs)
  have ho := own_rows h hn
  have hst : stF "Pairing" "rows" ω k (pob rs m) (.own (.lst (rs.map rowD ++ [.tup [.str t, .int x]]))) = ω.set k (pob (rs ++ [(t, x)]) m) := by
    rw [← st_rows (rs' := rs ++ [(t, x)]), rowsD_app]; rfl
  show toRR (m_Pairing_add n0 [.val (.obj k), .val (.str t), .val (.int x), .no] ω) = _
  have e0 : m_Pairing_add n0 [.val (.obj k), .val (.str t), .val (.int x), .no] ω = .rt (.int (rs.length : Int)) (ω.set k (pob (rs ++ [(t, x)]) m')) := by
    unfold m_Pairing_add
    refine (sq_nx (ρ' := [.val (.obj k), .val (.str t), .val (.int x), .no]) (ω' := ω) (by simp [e])).trans ?_
    refine (sq_nx (ρ' := [.val (.obj k), .val (.str t), .val (.int x), .no]) (ω' := ω) ?_).trans ?_
    · have : ¬ x < 1 := by omega
      simp [this]
    refine (sq_nx (ρ' := [.val (.obj k), .val (.str t), .val (.int x), .val (.int (rs.length : Int))]) (ω' := ω) ?_).trans ?_
    · generalize rowsD rs = R at *
      simp [-gLen, mFld, hr, hlr]
    refine (sq_nx (ρ' := [.val (.obj k), .val (.str t), .val (.int x), .val (.int (rs.length : Int))]) (ω' := ω.set k (pob (rs ++ [(t, x)]) m)) ?_).trans ?_
    · unfold sAppF
      have em : mV 0 [.val (.obj k), .val (.str t), .val (.int x), .val (.int (rs.length : Int))] ω = .ok (.obj k) := rfl
      have et : mTup (aCons (mV 1) (aCons (mV 2) aNil)) [.val (.obj k), .val (.str t), .val (.int x), .val (.int (rs.length : Int))] ω = .ok (.tup [.str t, .int x]) := by simp
      rw [em]
      dsimp only
      rw [ho]
      dsimp only [rowsD]
      rw [et]
      dsimp only [ofE]
      rw [@if_pos _ (Classical.propDecidable _) (by rw [List.length_map]; omega), hst]
      rfl
    refine (sq_nx (ρ' := [.val (.obj k), .val (.str t), .val (.int x), .val (.int (rs.length : Int))]) (ω' := ω.set k (pob (rs ++ [(t, x)]) m')) ?_).trans ?_
    · generalize ω.set k (pob (rs ++ [(t, x)]) m) = ω2 at *
      simp [hv, g1, rrX, demA]
    · generalize ω.set k _ = ω2
      simp
  rw [e0]; rfl
theorem fits_no1 (h : ω[k]? = some (pob rs m)) {i : Int} (hi : ¬ (0 ≤ i ∧ i < rs.length)) (j : D) (n0 : Nat) : fu_Pairing_fits n0 [.obj k, .int i, j] ω = .er NG ω := by
  have hlk := look_eq h i ω.length
  rw [if_neg hi] at hlk
  have hv := recv_pob (mt := "look") h (by rfl)
  simp only [fu_Pairing_fits, m_Pairing_fits, fuOf, envS]
  simp [hlk, hv]
theorem fits_no2 (h : ω[k]? = some (pob rs m)) (i : Int) {j : Int} (hj : ¬ (0 ≤ j ∧ j < rs.length)) (n0 : Nat) : fu_Pairing_fits n0 [.obj k, .int i, .int j] ω = .er NG ω := by
  by_cases hi : 0 ≤ i ∧ i < rs.length
  · have l1 := look_eq h i ω.length
    rw [if_pos hi] at l1
    have l2 := look_eq h j ω.length
    rw [if_neg hj] at l2
    have hv := recv_pob (mt := "look") h (by rfl)
    simp only [fu_Pairing_fits, m_Pairing_fits, fuOf, envS]
    simp [l1, l2, hv]
  · exact fits_no1 h hi _ n0
end

/-! ### rows drawn -/
def okRow (r : Str × Int) : Prop := (r.1 = "necklace" ∨ r.1 = "armring") ∧ 1 ≤ r.2
theorem cell_eq (ns : List Int) (i : Nat) (hl : ns.length ≤ 1000) (n0 : Nat) (ω : Store) : ∃ c, fu__law_cell n0 [.lst (ns.map .int), .int (i : Int)] ω = .ok (.int c) ω := by
  by_cases h : i < ns.length
  · refine ⟨ns.getD i 0, ?_⟩
    have e := map_get h
    have g : gIx (.lst (ns.map .int)) (.int (i : Int)) = .ok (.int (ns.getD i 0)) := gIx_lst (by omega) (by rw [Int.toNat_natCast]; exact e)
    have hn : gLen (.lst (ns.map .int)) = .ok (.int (ns.length : Int)) := by show Res.ok (D.int ((ns.map D.int).length : Int)) = _; rw [List.length_map]
    generalize ns.map D.int = L at *
    simp only [fu__law_cell, m__law_cell, fuOf, envS]
    simp [-gLen, g, hn, h]
  · refine ⟨0, ?_⟩
    have hn : gLen (.lst (ns.map .int)) = .ok (.int (ns.length : Int)) := by show Res.ok (D.int ((ns.map D.int).length : Int)) = _; rw [List.length_map]
    generalize ns.map D.int = L at *
    simp only [fu__law_cell, m__law_cell, fuOf, envS]
    simp [-gLen, hn, h]
theorem ix_rows {rs : Rw} {i : Nat} {r : Str × Int} (h : rs[i]? = some r) : gIx (rowsD rs) (.int (i : Int)) = .ok (.tup [.str r.1, .int r.2]) := rows_at h
noncomputable abbrev rowB : T := (sq (sSet 4 ([3] ++ (([] ++ ([] ++ ([] ++ ([] ++ ([] ++ []))))) ++ [])) (mCall 2 fu__law_draws (aCons (mV 3) (aCons (mLst (aCons (mC (.int 7)) (aCons (mC (.int 5)) (aCons (mC (.int 4)) (aCons (mC (.int 9)) (aCons (mC (.int 1000003)) aNil)))))) aNil))))
    (sq (sSet 5 (([] ++ ([] ++ [])) ++ (([] ++ []) ++ [])) (m2 (mLst (aCons (mC (.str "necklace")) (aCons (mC (.str "armring")) aNil))) (m1 (m2 (m2 (mV 4) (mC (.int 0)) gIx) (mC (.int 3)) gGt) gInt1) gIx))
    (sq (sSet 6 ((([] ++ ([] ++ [])) ++ (([] ++ (([] ++ []) ++ [])) ++ (([] ++ ([] ++ [])) ++ ((([] ++ []) ++ ([] ++ [])) ++ [])))) ++ (([] ++ ([] ++ ([] ++ ([] ++ ([] ++ ([] ++ ([] ++ []))))))) ++ ([] ++ []))) (m2 (mLst (aCons (m2 (mC (.int 1)) (m2 (mV 4) (mC (.int 3)) gIx) gAdd) (aCons (m2 (mC (.int 1)) (m2 (m2 (mV 4) (mC (.int 3)) gIx) (mC (.int 3)) gMod) gAdd) (aCons (m2 (mC (.int 1)) (m2 (mV 4) (mC (.int 4)) gIx) gAdd) (aCons (m2 (m2 (mC (.int 10)) (mC (.int 40)) gPow) (m2 (mV 4) (mC (.int 3)) gIx) gAdd) aNil))))) (m2 (mLst (aCons (mC (.int 0)) (aCons (mC (.int 0)) (aCons (mC (.int 1)) (aCons (mC (.int 1)) (aCons (mC (.int 0)) (aCons (mC (.int 2)) (aCons (mC (.int 3)) aNil)))))))) (m2 (mV 1) (mC (.int 7)) gMod) gIx) gIx))
    (sApp 2 ([5] ++ ([6] ++ [])) (mTup (aCons (mV 5) (aCons (mV 6) aNil)))))))
theorem one_row (kind : Int) (n0 : Nat) (ω : Store) (a b : Sl) (acc : Rw) (hacc : acc.length < 1000) (c : Int) (x4 x5 x6 : Sl) : ∃ r x4' x5' x6', okRow r ∧
    rowB n0 [a, .val (.int kind), .own (rowsD acc), .val (.int c), x4, x5, x6] ω = .nx [a, .val (.int kind), .own (rowsD (acc ++ [r])), .val (.int c), x4', x5', x6'] ω := by
  obtain ⟨c', hd⟩ := draws_eq ω.length c [7, 5, 4, 9, 1000003] ω (by decide) (by decide)
  have hd : fu__law_draws ω.length [.int c, .lst [.int 7, .int 5, .int 4, .int 9, .int 1000003]] ω = .ok (.lst ((drawsL c' [7, 5, 4, 9, 1000003]).map .int)) ω := hd
  obtain ⟨d0, q0, b0, c0⟩ := drawsL_at (ps := [7, 5, 4, 9, 1000003]) (c := c') (i := 0) rfl (by decide)
  obtain ⟨d3, q3, b3, c3⟩ := drawsL_at (ps := [7, 5, 4, 9, 1000003]) (c := c') (i := 3) rfl (by decide)
  obtain ⟨d4, q4, b4, c4⟩ := drawsL_at (ps := [7, 5, 4, 9, 1000003]) (c := c') (i := 4) rfl (by decide)
  have g0 : gIx (.lst ((drawsL c' [7, 5, 4, 9, 1000003]).map .int)) (.int 0) = .ok (.int d0) := ix_ints (by decide) q0
  have g3 : gIx (.lst ((drawsL c' [7, 5, 4, 9, 1000003]).map .int)) (.int 3) = .ok (.int d3) := ix_ints (by decide) q3
  have g4 : gIx (.lst ((drawsL c' [7, 5, 4, 9, 1000003]).map .int)) (.int 4) = .ok (.int d4) := ix_ints (by decide) q4
  generalize (drawsL c' [7, 5, 4, 9, 1000003]).map D.int = DL0 at *
  have hway : ∃ t : Str, (t = "necklace" ∨ t = "armring") ∧ gIx (.lst [.str "necklace", .str "armring"]) (.int (if 3 < d0 then 1 else 0)) = .ok (.str t) := by
    by_cases q : 3 < d0
    · rw [if_pos q]
      exact ⟨"armring", .inr rfl, gIx_lst (by decide) rfl⟩
    · rw [if_neg q]
      exact ⟨"necklace", .inl rfl, gIx_lst (by decide) rfl⟩
  obtain ⟨t, ht, gw⟩ := hway
  have hrank : ∃ x, 1 ≤ x ∧ ∃ j : Int, gIx (.lst [.int 0, .int 0, .int 1, .int 1, .int 0, .int 2, .int 3]) (.int (kind % 7)) = .ok (.int j) ∧ gIx (.lst [.int (1 + d3), .int (1 + d3 % 3), .int (1 + d4), .int ((10 : Int) ^ 40 + d3)]) (.int j) = .ok (.int x) := by
    have b3' : 0 ≤ d3 % 3 := Int.emod_nonneg _ (by decide)
    have hbig : 1 ≤ (10 : Int) ^ 40 + d3 := by
      have : (0 : Int) < 10 ^ 40 := by decide +kernel
      omega
    have h1 := Int.emod_nonneg kind (show (7 : Int) ≠ 0 by decide)
    have h2 := Int.emod_lt_of_pos kind (show (0 : Int) < 7 by decide)
    generalize (10 : Int) ^ 40 + d3 = big at *
    generalize kind % 7 = kk at *
    have hk : kk = 0 ∨ kk = 1 ∨ kk = 2 ∨ kk = 3 ∨ kk = 4 ∨ kk = 5 ∨ kk = 6 := by omega
    rcases hk with e | e | e | e | e | e | e <;> subst e
    · exact ⟨1 + d3, by omega, 0, gIx_lst (by decide) rfl, gIx_lst (by decide) rfl⟩
    · exact ⟨1 + d3, by omega, 0, gIx_lst (by decide) rfl, gIx_lst (by decide) rfl⟩
    · exact ⟨1 + d3 % 3, by omega, 1, gIx_lst (by decide) rfl, gIx_lst (by decide) rfl⟩
    · exact ⟨1 + d3 % 3, by omega, 1, gIx_lst (by decide) rfl, gIx_lst (by decide) rfl⟩
    · exact ⟨1 + d3, by omega, 0, gIx_lst (by decide) rfl, gIx_lst (by decide) rfl⟩
    · exact ⟨1 + d4, by omega, 2, gIx_lst (by decide) rfl, gIx_lst (by decide) rfl⟩
    · exact ⟨big, hbig, 3, gIx_lst (by decide) rfl, gIx_lst (by decide) rfl⟩
  obtain ⟨x, hx, j, gk, gr⟩ := hrank
  refine ⟨(t, x), .val (.lst DL0), .val (.str t), .val (.int x), ⟨ht, hx⟩, ?_⟩
  have hal : (acc.map rowD).length < 1000000 := by rw [List.length_map]; omega
  have hra : rowsD (acc ++ [(t, x)]) = .lst (acc.map rowD ++ [.tup [.str t, .int x]]) := rowsD_app
  have hrb : rowsD acc = .lst (acc.map rowD) := rfl
  have hpow : gPow (.int 10) (.int 40) = .ok (.int ((10 : Int) ^ 40)) := gPow_ok 10 40 (by decide)
  rw [hra, hrb]
  generalize acc.map rowD = AC at *
  generalize (10 : Int) ^ 40 = big at *
  have hgi : gInt1 (.bl (decide (3 < d0))) = .ok (.int (if 3 < d0 then 1 else 0)) := by
    by_cases q : 3 < d0
    · rw [if_pos q, decide_eq_true q]; rfl
    · rw [if_neg q, decide_eq_false q]; rfl
  refine (sq_nx (ρ' := [a, .val (.int kind), .own (.lst AC), .val (.int c), .val (.lst DL0), x5, x6]) (ω' := ω) ?_).trans ?_
  · simp [hd, demote, dmS]
  refine (sq_nx (ρ' := [a, .val (.int kind), .own (.lst AC), .val (.int c), .val (.lst DL0), .val (.str t), x6]) (ω' := ω) ?_).trans ?_
  · simp [g0, hgi, gw]
  refine (sq_nx (ρ' := [a, .val (.int kind), .own (.lst AC), .val (.int c), .val (.lst DL0), .val (.str t), .val (.int x)]) (ω' := ω) ?_).trans ?_
  · simp [g3, g4, gk, hpow, gr]
  · simp [hal]
theorem rows_for (kind : Int) (n0 : Nat) (ω : Store) (a : Sl) : ∀ (l : List Int) (acc : Rw) (x3 x4 x5 x6 : Sl), acc.length + l.length < 1000 → ∃ rs y3 y4 y5 y6, (∀ r ∈ rs, okRow r) ∧ rs.length = l.length ∧
    mFor (gN 3) rowB (l.map D.int) n0 [a, .val (.int kind), .own (rowsD acc), x3, x4, x5, x6] ω = .nx [a, .val (.int kind), .own (rowsD (acc ++ rs)), y3, y4, y5, y6] ω
  | [], acc, x3, x4, x5, x6, h => ⟨[], x3, x4, x5, x6, (fun r hr => by cases hr), rfl, by rw [show rowsD (acc ++ []) = rowsD acc from congrArg rowsD (List.append_nil _)]; rfl⟩
  | c :: l, acc, x3, x4, x5, x6, h => by
    rw [List.length_cons] at h
    obtain ⟨r, z4, z5, z6, hr, e⟩ := one_row kind n0 ω a .no acc (by omega) c x4 x5 x6
    obtain ⟨rs, y3, y4, y5, y6, h1, h2, h3⟩ := rows_for kind n0 ω a l (acc ++ [r]) (.val (.int c)) z4 z5 z6 (by rw [List.length_append, List.length_singleton]; omega)
    refine ⟨r :: rs, y3, y4, y5, y6, fun z hz => ?_, by rw [List.length_cons, List.length_cons, h2], ?_⟩
    · rcases List.mem_cons.mp hz with q | hz
      · rw [q]; exact hr
      · exact h1 z hz
    · rw [show acc ++ r :: rs = acc ++ [r] ++ rs by simp, ← h3]
      refine for_nx (i := 3) (b := rowB) (x := .int c) (ρ := [a, .val (.int kind), .own (rowsD acc), x3, x4, x5, x6]) (by show 3 < 7; decide) (.inl e)
theorem rows_eq (ns : List Int) (kind : Int) (hl : ns.length ≤ 900) (n0 : Nat) (ω : Store) : ∃ rs, fu__law_rows n0 [.lst (ns.map .int), .int kind] ω = .ok (rowsD rs) ω ∧ rs.length = ns.length ∧ ∀ r ∈ rs, okRow r := by
  obtain ⟨rs, y3, y4, y5, y6, h1, h2, h3⟩ := rows_for kind n0 ω (.val (.lst (ns.map .int))) ns [] .no .no .no .no (by show 0 + _ < _; omega)
  refine ⟨rs, ?_, h2, h1⟩
  show toRR (m__law_rows n0 [.val (.lst (ns.map .int)), .val (.int kind), .no, .no, .no, .no, .no] ω) = _
  have e0 : m__law_rows n0 [.val (.lst (ns.map .int)), .val (.int kind), .no, .no, .no, .no, .no] ω = .rt (rowsD rs) ω := by
    unfold m__law_rows
    refine (sq_nx (ρ' := [.val (.lst (ns.map .int)), .val (.int kind), .own (rowsD []), .no, .no, .no, .no]) (ω' := ω) ?_).trans ?_
    · simp [demote, dmS]; rfl
    refine (sq_nx (ρ' := [.val (.lst (ns.map .int)), .val (.int kind), .own (rowsD rs), y3, y4, y5, y6]) (ω' := ω) ?_).trans ?_
    · exact h3
    · generalize rowsD rs = R
      simp
  rw [e0]; rfl
theorem lawfits_eq {rs : Rw} {i j : Nat} (hi : i < rs.length) (hj : j < rs.length) (n0 : Nat) (ω : Store) : fu__law_fits n0 [rowsD rs, .int (i : Int), .int (j : Int)] ω = .ok (.bl (fitB rs i j)) ω := by
  have emin : (if j < i then (j : Int) else (i : Int)) = ((min i j : Nat) : Int) := by
    by_cases q : j < i
    · rw [if_pos (by omega), Nat.min_eq_right (by omega)]
    · rw [if_neg (by omega), Nat.min_eq_left (by omega)]
  have emax : (if i < j then (j : Int) else (i : Int)) = ((max i j : Nat) : Int) := by
    by_cases q : i < j
    · rw [if_pos (by omega), Nat.max_eq_right (by omega)]
    · rw [if_neg (by omega), Nat.max_eq_left (by omega)]
  have hmin : min i j < rs.length := by omega
  have hmax : max i j < rs.length := by omega
  have e1 := List.getElem?_eq_getElem hmin
  have e2 := List.getElem?_eq_getElem hmax
  have a1 := rows_at e1
  have a2 := rows_at e2
  unfold fitB
  rw [e1, e2]
  dsimp only
  generalize rs[min i j] = r1 at *
  generalize rs[max i j] = r2 at *
  generalize rowsD rs = R at *
  clear hmin hmax e1 e2
  generalize min i j = mi at *
  generalize max i j = ma at *
  obtain ⟨t1, x1⟩ := r1
  obtain ⟨t2, x2⟩ := r2
  have a1 : gIx R (.int (mi : Int)) = .ok (.tup [.str t1, .int x1]) := a1
  have a2 : gIx R (.int (ma : Int)) = .ok (.tup [.str t2, .int x2]) := a2
  have g1 : gIx (.tup [.str t1, .int x1]) (.int 0) = .ok (.str t1) := gIx_tup (by decide) rfl
  have g2 : gIx (.tup [.str t1, .int x1]) (.int 1) = .ok (.int x1) := gIx_tup (by decide) rfl
  have g3 : gIx (.tup [.str t2, .int x2]) (.int 0) = .ok (.str t2) := gIx_tup (by decide) rfl
  have g4 : gIx (.tup [.str t2, .int x2]) (.int 1) = .ok (.int x2) := gIx_tup (by decide) rfl
  simp only [fu__law_fits, m__law_fits, fuOf, envS]
  by_cases q : t1 = t2
  · subst q
    simp [emin, emax, a1, a2, g1, g2, g3, g4, gNe_strs, demote, dmS]
  · simp [emin, emax, a1, a2, g1, g2, g3, g4, gNe_strs, q, demote, dmS]

/-! ### the law's own search -/
noncomputable abbrev tuT : Env' → Store → Res Bool := b2 (mV 4) (mV 2) gNe
noncomputable abbrev tuB : T := (sq (sSet 5 ([] ++ []) (m2 (mV 0) (mV 4) gIx))
    (sq (sPut 0 [4] (mV 3) (mV 4))
    (sq (sPut 0 [3] (mV 4) (mV 3))
    (sq (sSet 3 [5] (mV 5))
    (sSet 4 ([] ++ []) (m2 (mV 1) (mV 3) gIx))))))
noncomputable abbrev tuE : T := (sq (sPut 0 [2] (mV 3) (mV 2))
    (sq (sPut 0 [3] (mV 2) (mV 3))
    (sRet (mV 0))))
theorem put_eq {n0 x y : Nat} {i : Nat} {B : List Nat} {mk mv : M} {ρ : Env'} {ω : Store} {m : Kl} (h0 : ρ[i]? = some (.own (.dK (encM m)))) (h1 : mk ρ ω = .ok (.int (x : Int))) (h2 : mv ρ ω = .ok (.int (y : Int))) (hm : m.length < 1000000) :
    sPut i B mk mv n0 ρ ω = .nx (ρ.set i (.own (.dK (encM (putA m x y))))) ω := by
  unfold sPut
  rw [h2]
  dsimp only [ofE]
  have e0 : dem B (.int (y : Int)) ρ = ρ := rfl
  rw [e0, h1]
  dsimp only
  rw [h0]
  dsimp only
  rw [gPut_enc hm]
theorem turn_eq (a0 n0 : Nat) (ω : Store) (ks : Kl) : ∀ (f : Nat) (m : Kl) (o hh : Nat) (x5 : Sl) (ν : Nat → Option Nat), flipG ks [a0] f (getA m) o = some ν → getA ks o = some hh → (m.map (·.1)).Nodup → m.length + 2 * f < 100000 →
    ∃ m', sq (mWh tuT tuB f) tuE n0 [.own (.dK (encM m)), .val (.dK (encM ks)), .val (.int (a0 : Int)), .val (.int (o : Int)), .val (.int (hh : Int)), x5] ω
      = .rt (.dK (encM m')) ω ∧ getA m' = ν ∧ (m'.map (·.1)).Nodup
  | 0, m, o, hh, x5, ν, hb, hg, hd, hl => by cases hb
  | f + 1, m, o, hh, x5, ν, hb, hg, hd, hl => by
    unfold flipG at hb
    rw [hg] at hb
    dsimp only at hb
    by_cases c : hh = a0
    · subst c
      rw [if_pos List.mem_cons_self] at hb
      cases hb
      refine ⟨putA (putA m o hh) hh o, ?_, by rw [getA_put, getA_put], put_keys (put_keys hd)⟩
      have e1 : mWh tuT tuB (f + 1) n0 [.own (.dK (encM m)), .val (.dK (encM ks)), .val (.int (hh : Int)), .val (.int (o : Int)), .val (.int (hh : Int)), x5] ω = .nx [.own (.dK (encM m)), .val (.dK (encM ks)), .val (.int (hh : Int)), .val (.int (o : Int)), .val (.int (hh : Int)), x5] ω := by
        generalize encM ks = E at *
        generalize encM m = EM at *
        unfold mWh
        simp
      rw [sq_nx e1]
      have l1 := put_len (m := m) (i := o) (j := hh)
      generalize encM ks = E at *
      have p1 : sPut 0 [2] (mV 3) (mV 2) n0 [.own (.dK (encM m)), .val (.dK E), .val (.int (hh : Int)), .val (.int (o : Int)), .val (.int (hh : Int)), x5] ω = _ := put_eq (x := o) (y := hh) rfl rfl rfl (by omega)
      have p2 : sPut 0 [3] (mV 2) (mV 3) n0 [.own (.dK (encM (putA m o hh))), .val (.dK E), .val (.int (hh : Int)), .val (.int (o : Int)), .val (.int (hh : Int)), x5] ω = _ := put_eq (x := hh) (y := o) rfl rfl rfl (by omega)
      unfold tuE
      rw [sq_nx p1]
      exact (sq_nx p2).trans rfl
    · rw [if_neg (by simpa using c)] at hb
      cases e : getA m hh with
      | none => rw [e] at hb; cases hb
      | some fu =>
        rw [e] at hb
        dsimp only at hb
        cases f with
        | zero => cases hb
        | succ f =>
        have e2 : ∃ h', getA ks fu = some h' := by
          unfold flipG at hb
          cases z : getA ks fu with
          | none => rw [z] at hb; cases hb
          | some h' => exact ⟨h', rfl⟩
        obtain ⟨h', e2⟩ := e2
        have l1 := put_len (m := m) (i := o) (j := hh)
        have l2 := put_len (m := putA m o hh) (i := hh) (j := o)
        have hb2 : flipG ks [a0] (f + 1) (getA (putA (putA m o hh) hh o)) fu = some ν := by rw [getA_put, getA_put]; exact hb
        obtain ⟨m', r1, r2, r3⟩ := turn_eq a0 n0 ω ks (f + 1) (putA (putA m o hh) hh o) fu h' (.val (.int (fu : Int))) ν hb2 e2 (put_keys (put_keys hd)) (by omega)
        refine ⟨m', ?_, r2, r3⟩
        rw [← r1]
        have gk := gIx_enc e2
        have gm := gIx_enc e
        generalize encM ks = E at *
        have tst : tuT [.own (.dK (encM m)), .val (.dK E), .val (.int (a0 : Int)), .val (.int (o : Int)), .val (.int (hh : Int)), x5] ω = .ok true := by
          have c' : ¬ (hh : Int) = (a0 : Int) := by omega
          generalize encM m = EM at *
          simp [c']
        have bd : tuB n0 [.own (.dK (encM m)), .val (.dK E), .val (.int (a0 : Int)), .val (.int (o : Int)), .val (.int (hh : Int)), x5] ω = .nx [.own (.dK (encM (putA (putA m o hh) hh o))), .val (.dK E), .val (.int (a0 : Int)), .val (.int (fu : Int)), .val (.int (h' : Int)), .val (.int (fu : Int))] ω := by
          have p1 : sPut 0 [4] (mV 3) (mV 4) n0 [.own (.dK (encM m)), .val (.dK E), .val (.int (a0 : Int)), .val (.int (o : Int)), .val (.int (hh : Int)), .val (.int (fu : Int))] ω = _ := put_eq (x := o) (y := hh) rfl rfl rfl (by omega)
          have p2 : sPut 0 [3] (mV 4) (mV 3) n0 [.own (.dK (encM (putA m o hh))), .val (.dK E), .val (.int (a0 : Int)), .val (.int (o : Int)), .val (.int (hh : Int)), .val (.int (fu : Int))] ω = _ := put_eq (x := hh) (y := o) rfl rfl rfl (by omega)
          unfold tuB
          refine (sq_nx (ρ' := [.own (.dK (encM m)), .val (.dK E), .val (.int (a0 : Int)), .val (.int (o : Int)), .val (.int (hh : Int)), .val (.int (fu : Int))]) (ω' := ω) ?_).trans ?_
          · generalize encM m = EM at *
            simp [gm]
          rw [sq_nx p1]
          refine (sq_nx p2).trans ?_
          show sq _ _ n0 [.own (.dK (encM (putA (putA m o hh) hh o))), .val (.dK E), .val (.int (a0 : Int)), .val (.int (o : Int)), .val (.int (hh : Int)), .val (.int (fu : Int))] ω = _
          generalize encM (putA (putA m o hh) hh o) = EM at *
          simp [gk]
        conv => lhs; unfold sq; unfold mWh
        rw [tst]
        dsimp only
        rw [bd]
        rfl
theorem turned_eq (a0 n0 : Nat) (ω : Store) {ks m : Kl} {o hh : Nat} {ν : Nat → Option Nat} (hb : flipG ks [a0] 1000 (getA m) o = some ν) (hg : getA ks o = some hh) (hd : (m.map (·.1)).Nodup) (hl : m.length < 1000) :
    ∃ m', fu__law_turned n0 [.dK (encM m), .dK (encM ks), .int (a0 : Int), .int (o : Int)] ω = .ok (.dK (encM m')) ω ∧ getA m' = ν ∧ (m'.map (·.1)).Nodup := by
  obtain ⟨m', r1, r2, r3⟩ := turn_eq a0 n0 ω ks 1000 m o hh .no ν hb hg hd (by omega)
  refine ⟨m', ?_, r2, r3⟩
  show toRR (m__law_turned n0 [.val (.dK (encM m)), .val (.dK (encM ks)), .val (.int (a0 : Int)), .val (.int (o : Int)), .no, .no] ω) = _
  have e0 : m__law_turned n0 [.val (.dK (encM m)), .val (.dK (encM ks)), .val (.int (a0 : Int)), .val (.int (o : Int)), .no, .no] ω = .rt (.dK (encM m')) ω := by
    unfold m__law_turned
    have gk := gIx_enc hg
    refine (sq_nx (ρ' := [.own (.dK (encM m)), .val (.dK (encM ks)), .val (.int (a0 : Int)), .val (.int (o : Int)), .no, .no]) (ω' := ω) ?_).trans ?_
    · have hfr := enc_free (m := m)
      generalize encM m = EM at *
      generalize encM ks = E at *
      simp [gDict, hfr]
    refine (sq_nx (ρ' := [.own (.dK (encM m)), .val (.dK (encM ks)), .val (.int (a0 : Int)), .val (.int (o : Int)), .val (.int (hh : Int)), .no]) (ω' := ω) ?_).trans ?_
    · generalize encM m = EM at *
      generalize encM ks = E at *
      simp [gk]
    · exact r1
  rw [e0]; rfl
noncomputable abbrev ldF : T := (sIf (bAnd (b2 (mV 6) (mV 3) gNotIn) (bV (mCall 3 fu__law_fits (aCons (mV 0) (aCons (m2 (mV 4) (mV 5) gIx) (aCons (mV 6) aNil)))))) (sq (sPut 3 ([] ++ []) (mV 6) (m2 (mV 4) (mV 5) gIx))
    (sq (sIf (b2 (mV 6) (mV 1) gNotIn) (sRet (mCall 4 fu__law_turned (aCons (mV 1) (aCons (mV 3) (aCons (mV 2) (aCons (mV 6) aNil)))))) sNx)
    (sApp 4 ([] ++ []) (m2 (mV 1) (mV 6) gIx)))) sNx)
theorem for_one {i n0 : Nat} {b : T} {x : D} {xs : List D} {ρ : Env'} {ω : Store} (hi : i < ρ.length) : mFor (gN i) b (x :: xs) n0 ρ ω = match b n0 (ρ.set i (.val x)) ω with
      | .nx ρ' ω' => mFor (gN i) b xs n0 ρ' ω'
      | .ct ρ' ω' => mFor (gN i) b xs n0 ρ' ω'
      | .bk ρ' ω' => .nx ρ' ω'
      | q => q := by
  conv => lhs; unfold mFor
  have e : gN i x ρ = some (ρ.set i (.val x)) := if_pos hi
  first
    | (rw [e]; done)
    | (rw [e]; rfl)
/-- one round of the law's search -/
theorem ledv_eq (rs : Rw) (m : Kl) (a0 n0 : Nat) (ω : Store) (kk v : Nat) (hv : v < rs.length) : ∀ (l : List Nat) (ks : Kl) (row : List Nat) (x : Sl), (∀ o ∈ l, o < rs.length) → row[kk]? = some v → ks.length + l.length ≤ 900000 → row.length + l.length ≤ 900000 →
    match ledV (fitB rs) (getA m) v l ks row with
    | .inl (ks', o) => (∃ hh, getA ks' o = some hh) ∧ ∀ d, fu__law_turned ω.length [.dK (encM m), .dK (encM ks'), .int (a0 : Int), .int (o : Int)] ω = .ok d ω → mFor (gN 6) ldF (intsD l) n0 [.val (rowsD rs), .val (.dK (encM m)), .val (.int (a0 : Int)), .own (.dK (encM ks)), .own (.lst (intsD row)), .val (.int (kk : Int)), x] ω = .rt d ω
    | .inr (ks', row') => ∃ x', mFor (gN 6) ldF (intsD l) n0 [.val (rowsD rs), .val (.dK (encM m)), .val (.int (a0 : Int)), .own (.dK (encM ks)), .own (.lst (intsD row)), .val (.int (kk : Int)), x] ω = .nx [.val (rowsD rs), .val (.dK (encM m)), .val (.int (a0 : Int)), .own (.dK (encM ks')), .own (.lst (intsD row')), .val (.int (kk : Int)), x'] ω
  | [], ks, row, x, _, _, _, _ => ⟨x, rfl⟩
  | o :: l, ks, row, x, hlt, hr, hk, hw => by
    rw [List.length_cons] at hk hw
    have hlt' : ∀ o ∈ l, o < rs.length := fun z hz => hlt z (List.mem_cons_of_mem _ hz)
    have ho := hlt o List.mem_cons_self
    have e1 := gNotIn_enc (m := ks) (x := o)
    rw [hasK_get] at e1
    have e2 := gNotIn_enc (m := m) (x := o)
    have e3 := intsD_at hr
    have ef := lawfits_eq hv ho ω.length ω
    have cons : ∀ ks row x, mFor (gN 6) ldF (intsD (o :: l)) n0 [.val (rowsD rs), .val (.dK (encM m)), .val (.int (a0 : Int)), .own (.dK (encM ks)), .own (.lst (intsD row)), .val (.int (kk : Int)), x] ω = _ := fun ks row x => for_one (i := 6) (b := ldF) (x := .int (o : Int)) (xs := intsD l) (ρ := [.val (rowsD rs), .val (.dK (encM m)), .val (.int (a0 : Int)), .own (.dK (encM ks)), .own (.lst (intsD row)), .val (.int (kk : Int)), x]) (ω := ω) (n0 := n0) (by show 6 < 7; decide)
    rw [cons ks row x]
    unfold ledV
    by_cases c : hasK ks o = true
    · rw [if_pos c]
      rw [c] at e1
      have st : ldF n0 ([.val (rowsD rs), .val (.dK (encM m)), .val (.int (a0 : Int)), .own (.dK (encM ks)), .own (.lst (intsD row)), .val (.int (kk : Int)), x].set 6 (.val (.int (o : Int)))) ω = .nx [.val (rowsD rs), .val (.dK (encM m)), .val (.int (a0 : Int)), .own (.dK (encM ks)), .own (.lst (intsD row)), .val (.int (kk : Int)), .val (.int (o : Int))] ω := by
        generalize encM ks = E at *
        generalize encM m = EM at *
        generalize rowsD rs = R at *
        generalize intsD row = RW at *
        simp [e1]
      rw [st]
      exact ledv_eq rs m a0 n0 ω kk v hv l ks row (.val (.int (o : Int))) hlt' hr (by omega) (by omega)
    · rw [if_neg c]
      have c : hasK ks o = false := by
        cases z : hasK ks o with
        | false => rfl
        | true => exact absurd z c
      rw [c] at e1
      by_cases cf : fitB rs v o = true
      · rw [if_pos cf]
        rw [cf] at ef
        have ep : putA ks o v = ks ++ [(o, v)] := by unfold putA; rw [c]; rfl
        have e4 := gPut_enc (m := ks) (i := o) (j := v) (by omega)
        rw [ep] at e4
        cases z : getA m o with
        | none =>
          dsimp only
          have hg : getA (ks ++ [(o, v)]) o = some v := by rw [getA_app c, if_pos rfl]
          refine ⟨⟨v, hg⟩, fun d hd => ?_⟩
          rw [z] at e2
          generalize encM (ks ++ [(o, v)]) = E2 at *
          generalize encM ks = E at *
          generalize encM m = EM at *
          generalize rowsD rs = R at *
          generalize intsD row = RW at *
          have st : ldF n0 ([.val R, .val (.dK EM), .val (.int (a0 : Int)), .own (.dK E), .own (.lst RW), .val (.int (kk : Int)), x].set 6 (.val (.int (o : Int)))) ω = .rt d ω := by
            simp [e1, e2, e3, e4, ef, hd]
          rw [st]
        | some w =>
          dsimp only
          rw [z] at e2
          have e5 := gIx_enc z
          have hrow : (intsD row).length < 1000000 := by rw [intsD_len]; omega
          have ea : intsD (row ++ [w]) = intsD row ++ [.int (w : Int)] := by unfold intsD; rw [List.map_append]; rfl
          have ih := ledv_eq rs m a0 n0 ω kk v hv l (ks ++ [(o, v)]) (row ++ [w]) (.val (.int (o : Int))) hlt' (by
            rw [List.getElem?_append_left (List.getElem?_eq_some_iff.mp hr).1]; exact hr) (by rw [List.length_append, List.length_singleton]; omega) (by rw [List.length_append, List.length_singleton]; omega)
          have st : ldF n0 ([.val (rowsD rs), .val (.dK (encM m)), .val (.int (a0 : Int)), .own (.dK (encM ks)), .own (.lst (intsD row)), .val (.int (kk : Int)), x].set 6 (.val (.int (o : Int)))) ω = .nx [.val (rowsD rs), .val (.dK (encM m)), .val (.int (a0 : Int)), .own (.dK (encM (ks ++ [(o, v)]))), .own (.lst (intsD (row ++ [w]))), .val (.int (kk : Int)), .val (.int (o : Int))] ω := by
            rw [ea]
            generalize encM (ks ++ [(o, v)]) = E2 at *
            generalize encM ks = E at *
            generalize encM m = EM at *
            generalize rowsD rs = R at *
            generalize intsD row = RW at *
            simp [e1, e2, e3, e4, e5, ef, hrow]
          rw [st]
          exact ih
      · rw [if_neg cf]
        have cf : fitB rs v o = false := by
          cases z : fitB rs v o with
          | false => rfl
          | true => exact absurd z cf
        rw [cf] at ef
        have st : ldF n0 ([.val (rowsD rs), .val (.dK (encM m)), .val (.int (a0 : Int)), .own (.dK (encM ks)), .own (.lst (intsD row)), .val (.int (kk : Int)), x].set 6 (.val (.int (o : Int)))) ω = .nx [.val (rowsD rs), .val (.dK (encM m)), .val (.int (a0 : Int)), .own (.dK (encM ks)), .own (.lst (intsD row)), .val (.int (kk : Int)), .val (.int (o : Int))] ω := by
          generalize encM ks = E at *
          generalize encM m = EM at *
          generalize rowsD rs = R at *
          generalize intsD row = RW at *
          simp [e1, e3, ef]
        rw [st]
        exact ledv_eq rs m a0 n0 ω kk v hv l ks row (.val (.int (o : Int))) hlt' hr (by omega) (by omega)

theorem ledV_row {fit : Nat → Nat → Bool} {μ : Nat → Option Nat} {v : Nat} : ∀ {l : List Nat} {ks : Kl} {row : List Nat} {ks' : Kl} {row' : List Nat}, ledV fit μ v l ks row = .inr (ks', row') → ks'.length ≤ ks.length + l.length ∧ row'.length ≤ row.length + l.length ∧ ∀ w ∈ row', w ∈ row ∨ ∃ o, μ o = some w
  | [], ks, row, ks', row', h => by
    cases h
    exact ⟨Nat.le_refl _, Nat.le_refl _, fun w hw => .inl hw⟩
  | o :: l, ks, row, ks', row', h => by
    unfold ledV at h
    rw [List.length_cons]
    split at h
    · obtain ⟨a, b, c⟩ := ledV_row h
      exact ⟨by omega, by omega, c⟩
    · split at h
      · cases e : μ o with
        | none => rw [e] at h; cases h
        | some w =>
          rw [e] at h
          obtain ⟨a, b, c⟩ := ledV_row h
          rw [List.length_append, List.length_singleton] at a b
          refine ⟨by omega, by omega, fun z hz => ?_⟩
          rcases c z hz with h | h
          · rcases List.mem_append.mp h with h | h
            · exact .inl h
            · have : z = w := by simpa using h
              exact .inr ⟨o, by rw [this]; exact e⟩
          · exact .inr h
      · obtain ⟨a, b, c⟩ := ledV_row h
        exact ⟨by omega, by omega, c⟩
noncomputable abbrev ldW : T := sq (sFor [] (iRng (m1 (mV 0) gLen)) (gN 6) ldF) (sAugI 5 (mC (.int 1)))
abbrev ldT : Env' → Store → Res Bool := b2 (mV 5) (m1 (mV 4) gLen) gLt
theorem ledb_eq (rs : Rw) (hn : rs.length ≤ 100) (m : Kl) (M : Mat (fitB rs) rs.length (getA m)) (a0 n0 : Nat) (ω : Store) : ∀ (f kk : Nat) (ks : Kl) (row : List Nat) (x : Sl), (∀ v ∈ row, v < rs.length) → ks.length + f * 100 ≤ 900000 → row.length + f * 100 ≤ 900000 →
    match ledB (fitB rs) rs.length (getA m) f kk ks row with
    | none => True
    | some (.inl (ks', o)) => (∃ hh, getA ks' o = some hh) ∧ ∀ d, fu__law_turned ω.length [.dK (encM m), .dK (encM ks'), .int (a0 : Int), .int (o : Int)] ω = .ok d ω → mWh ldT ldW f n0 [.val (rowsD rs), .val (.dK (encM m)), .val (.int (a0 : Int)), .own (.dK (encM ks)), .own (.lst (intsD row)), .val (.int (kk : Int)), x] ω = .rt d ω
    | some (.inr (ks', row')) => ∃ kk' x', mWh ldT ldW f n0 [.val (rowsD rs), .val (.dK (encM m)), .val (.int (a0 : Int)), .own (.dK (encM ks)), .own (.lst (intsD row)), .val (.int (kk : Int)), x] ω = .nx [.val (rowsD rs), .val (.dK (encM m)), .val (.int (a0 : Int)), .own (.dK (encM ks')), .own (.lst (intsD row')), kk', x'] ω
  | 0, kk, ks, row, x, _, _, _ => trivial
  | f + 1, kk, ks, row, x, hr, hk, hw => by
    unfold ledB
    have hlen : gLen (.lst (intsD row)) = .ok (.int (row.length : Int)) := by show Res.ok (D.int ((intsD row).length : Int)) = _; rw [intsD_len]
    have hrl := rows_len (rs := rs)
    cases e : row[kk]? with
    | none =>
      dsimp only
      have h1 := List.getElem?_eq_none_iff.mp e
      have h2 : ¬ kk < row.length := by omega
      refine ⟨.val (.int (kk : Int)), x, ?_⟩
      generalize encM ks = E at *
      generalize encM m = EM at *
      generalize intsD row = RW at *
      generalize rowsD rs = R at *
      unfold mWh
      simp [-gLen, hlen, h2]
    | some v =>
      dsimp only
      have h1 := (List.getElem?_eq_some_iff.mp e).1
      have hv : v < rs.length := hr v (List.mem_iff_getElem?.mpr ⟨kk, e⟩)
      have hL := ledv_eq rs m a0 n0 ω kk v hv (List.range rs.length) ks row x (fun o ho => List.mem_range.mp ho) e (by rw [List.length_range]; omega) (by rw [List.length_range]; omega)
      have ht : ldT [.val (rowsD rs), .val (.dK (encM m)), .val (.int (a0 : Int)), .own (.dK (encM ks)), .own (.lst (intsD row)), .val (.int (kk : Int)), x] ω = .ok true := by
        generalize encM ks = E at *
        generalize encM m = EM at *
        generalize intsD row = RW at *
        generalize rowsD rs = R at *
        simp [-gLen, hlen, h1]
      have hfor : sFor [] (iRng (m1 (mV 0) gLen)) (gN 6) ldF n0 [.val (rowsD rs), .val (.dK (encM m)), .val (.int (a0 : Int)), .own (.dK (encM ks)), .own (.lst (intsD row)), .val (.int (kk : Int)), x] ω = mFor (gN 6) ldF (intsD (List.range rs.length)) n0 [.val (rowsD rs), .val (.dK (encM m)), .val (.int (a0 : Int)), .own (.dK (encM ks)), .own (.lst (intsD row)), .val (.int (kk : Int)), x] ω := by
        have hm : iRng (m1 (mV 0) gLen) [.val (rowsD rs), .val (.dK (encM m)), .val (.int (a0 : Int)), .own (.dK (encM ks)), .own (.lst (intsD row)), .val (.int (kk : Int)), x] ω = .ok (intsD (List.range rs.length)) := by
          have ha := asRng1_len (n := rs.length) (by omega)
          rw [range_ints] at ha
          generalize rowsD rs = R at *
          show ((m1 (mV 0) gLen) _ ω).bind asRng1 = _
          have : (m1 (mV 0) gLen) [.val R, .val (.dK (encM m)), .val (.int (a0 : Int)), .own (.dK (encM ks)), .own (.lst (intsD row)), .val (.int (kk : Int)), x] ω = .ok (.int (rs.length : Int)) := hrl
          rw [this]
          exact ha
        unfold sFor
        rw [hm]
        dsimp only
        rw [dem_nil]
      cases z : ledV (fitB rs) (getA m) v (List.range rs.length) ks row with
      | inl r =>
        obtain ⟨ks', o⟩ := r
        rw [z] at hL
        refine ⟨hL.1, fun d hd => ?_⟩
        conv => lhs; unfold mWh
        rw [ht]
        dsimp only
        have : ldW n0 [.val (rowsD rs), .val (.dK (encM m)), .val (.int (a0 : Int)), .own (.dK (encM ks)), .own (.lst (intsD row)), .val (.int (kk : Int)), x] ω = .rt d ω := by
          unfold ldW
          exact sq_rt (hfor.trans (hL.2 d hd))
        rw [this]
      | inr r =>
        obtain ⟨ks', row'⟩ := r
        rw [z] at hL
        obtain ⟨x', hx⟩ := hL
        obtain ⟨b1, b2, b3⟩ := ledV_row z
        rw [List.length_range] at b1 b2
        have ih := ledb_eq rs hn m M a0 n0 ω f (kk + 1) ks' row' x' (fun w hw => by
          rcases b3 w hw with h | ⟨o, h⟩
          · exact hr w h
          · exact M.lt _ _ (M.sym _ _ h)) (by omega) (by omega)
        have step : ldW n0 [.val (rowsD rs), .val (.dK (encM m)), .val (.int (a0 : Int)), .own (.dK (encM ks)), .own (.lst (intsD row)), .val (.int (kk : Int)), x] ω = .nx [.val (rowsD rs), .val (.dK (encM m)), .val (.int (a0 : Int)), .own (.dK (encM ks')), .own (.lst (intsD row')), .val (.int ((kk + 1 : Nat) : Int)), x'] ω := by
          unfold ldW
          refine (sq_nx (hfor.trans hx)).trans ?_
          have hcast : ((kk : Int) + 1) = ((kk + 1 : Nat) : Int) := by omega
          rw [← hcast]
          generalize encM ks' = E at *
          generalize encM m = EM at *
          generalize intsD row' = RW at *
          generalize rowsD rs = R at *
          simp
        have hmw : mWh ldT ldW (f + 1) n0 [.val (rowsD rs), .val (.dK (encM m)), .val (.int (a0 : Int)), .own (.dK (encM ks)), .own (.lst (intsD row)), .val (.int (kk : Int)), x] ω = mWh ldT ldW f n0 [.val (rowsD rs), .val (.dK (encM m)), .val (.int (a0 : Int)), .own (.dK (encM ks')), .own (.lst (intsD row')), .val (.int ((kk + 1 : Nat) : Int)), x'] ω := by
          conv => lhs; unfold mWh
          rw [ht]
          dsimp only
          rw [step]
        rw [hmw]
        exact ih
theorem ledm_eq {rs : Rw} (hk : ∀ r ∈ rs, r.1 = "necklace" ∨ r.1 = "armring") (hn : rs.length ≤ 90) {m : Kl} {y : Nat} (hy : y < rs.length) (hd : (m.map (·.1)).Nodup) (M : Mat (fitB rs) rs.length (getA m)) (hyn : getA m y = none) (n0 : Nat) (ω : Store) :
    ∃ m', fu__law_led n0 [rowsD rs, .dK (encM m), .int (y : Int)] ω = .ok (.dK (encM m')) ω ∧ (m'.map (·.1)).Nodup ∧ Mat (fitB rs) rs.length (getA m') ∧ (∀ x, getA m x ≠ none → getA m' x ≠ none) ∧ Done (fitB rs) (kdB rs) rs.length (getA m') y := by
  have g := gphB hk
  have hml := mat_len hd M
  have main : ∀ d, (∃ kk' x' ks' row', mWh ldT ldW 1000 n0 [.val (rowsD rs), .val (.dK (encM m)), .val (.int (y : Int)), .own (.dK []), .own (.lst (intsD [y])), .val (.int 0), .no] ω = .nx [.val (rowsD rs), .val (.dK (encM m)), .val (.int (y : Int)), .own (.dK (encM ks')), .own (.lst (intsD row')), kk', x'] ω ∧ d = .dK (encM m)) ∨ mWh ldT ldW 1000 n0 [.val (rowsD rs), .val (.dK (encM m)), .val (.int (y : Int)), .own (.dK []), .own (.lst (intsD [y])), .val (.int 0), .no] ω = .rt d ω → fu__law_led n0 [rowsD rs, .dK (encM m), .int (y : Int)] ω = .ok d ω := by
    intro d hdd
    show toRR (m__law_led n0 [.val (rowsD rs), .val (.dK (encM m)), .val (.int (y : Int)), .no, .no, .no, .no] ω) = _
    have e0 : m__law_led n0 [.val (rowsD rs), .val (.dK (encM m)), .val (.int (y : Int)), .no, .no, .no, .no] ω = .rt d ω := by
      unfold m__law_led
      refine (sq_nx (ρ' := [.val (rowsD rs), .val (.dK (encM m)), .val (.int (y : Int)), .own (.dK []), .no, .no, .no]) (ω' := ω) ?_).trans ?_
      · generalize encM m = EM at *
        generalize rowsD rs = R at *
        simp
      refine (sq_nx (ρ' := [.val (rowsD rs), .val (.dK (encM m)), .val (.int (y : Int)), .own (.dK []), .own (.lst (intsD [y])), .no, .no]) (ω' := ω) ?_).trans ?_
      · generalize encM m = EM at *
        generalize rowsD rs = R at *
        simp [intsD]
      refine (sq_nx (ρ' := [.val (rowsD rs), .val (.dK (encM m)), .val (.int (y : Int)), .own (.dK []), .own (.lst (intsD [y])), .val (.int 0), .no]) (ω' := ω) ?_).trans ?_
      · generalize encM m = EM at *
        generalize rowsD rs = R at *
        generalize intsD [y] = RW at *
        simp
      rcases hdd with ⟨kk', x', ks', row', h, rfl⟩ | h
      · refine (sq_nx h).trans ?_
        generalize encM m = EM at *
        generalize rowsD rs = R at *
        generalize intsD row' = RW at *
        generalize encM ks' = E at *
        simp
      · exact sq_rt h
    rw [e0]; rfl
  have hb := ledb_eq rs (by omega) m M y n0 ω 1000 0 [] [y] .no (fun v hv => by
    have : v = y := by simpa using hv
    omega) (by decide) (by show 1 + 1000 * 100 ≤ 900000; decide)
  rcases ledB_ok (fit := fitB rs) (n := rs.length) (μ := getA m) (bg := [y]) 1000 0 [] [y] Sp0.start (fun p hp => by cases hp) (fun j v h => by omega) (Nat.zero_le _) (by rw [List.length_singleton]; omega) with ⟨ks', o, row', i, v', e, S, hi, ho⟩ | ⟨ks', row', e, S, hall⟩
  · rw [e] at hb
    obtain ⟨⟨hh, hg⟩, hb⟩ := hb
    have hil := (List.getElem?_eq_some_iff.mp hi).1
    have := S.len.1
    obtain ⟨ν, f1, f2, f3⟩ := led_more g M (f := 1000) hy hyn S hi ho (by omega)
    obtain ⟨m', t1, t2, t3⟩ := turned_eq y ω.length ω f1 hg hd (by omega)
    refine ⟨m', main _ (.inr (hb _ t1)), t3, by rw [t2]; exact f2, fun x hx => ?_, .inl ?_⟩
    · rw [t2]; exact (f3 x).mpr (.inl hx)
    · rw [t2]; exact (f3 y).mpr (.inr (.inr rfl))
  · rw [e] at hb
    obtain ⟨kk', x', hb⟩ := hb
    exact ⟨m, main _ (.inl ⟨kk', x', ks', row', hb, rfl⟩), hd, M, fun x hx => hx, .inr (led_fail g M hy hyn S hall)⟩

theorem kd_kind {rs : Rw} (hk : ∀ r ∈ rs, r.1 = "necklace" ∨ r.1 = "armring") {t : Str} (ht : t = "necklace" ∨ t = "armring") {j : Nat} {r : Str × Int} (hr : rs[j]? = some r) : (kdB rs j = decide (t = "necklace")) ↔ r.1 = t := by
  have h := hk r (List.mem_iff_getElem?.mpr ⟨j, hr⟩)
  unfold kdB
  rw [hr]
  dsimp only
  have hne : ("armring" : Str) ≠ "necklace" := by decide
  rcases h with h | h <;> rcases ht with q | q
  · rw [h, q]; simp
  · rw [h, q]; simp [hne, Ne.symm hne]
  · rw [h, q]; simp [hne]
  · rw [h, q]; simp

def srtN (l : List Nat) : D := .lst ((srtI (l.map fun (i : Nat) => (i : Int))).map .int)
theorem srtN_perm {a b : List Nat} (h : a.Perm b) : srtN a = srtN b := by
  unfold srtN
  rw [sorted_eq (((srtI_perm _).trans (h.map _)).trans (srtI_perm _).symm) (srtI_up _) (srtI_up _)]
theorem gSorted_ints (l : List Nat) : gSorted (.lst (intsD l)) = .ok (srtN l) := by
  show (match D.ints? (intsD l) with
    | some ns => Res.ok (D.lst ((srtI ns).map .int))
    | none => .stuck) = _
  rw [ints_intsD]; rfl
theorem gSorted_enc {m : Kl} (h : m.length < 64) : gSorted (.dK (encM m)) = .ok (srtN (m.map (·.1))) := by
  show (match D.ints? ((encM m).map fun kv => kD kv.1) with
    | some ns => if ns.length < 64 then Res.ok (D.lst ((srtI ns).map .int)) else .stuck
    | none => .stuck) = _
  rw [enc_keys, ints_intsD]
  dsimp only
  rw [if_pos (by rw [List.length_map, List.length_map]; exact h)]; rfl
theorem pd_ints (l : List Int) (h : l.length ≤ 1000) : pd 2 (.lst (l.map .int)) = true := by
  show (decide ((l.map D.int).length ≤ 1000) && (l.map D.int).all (pd 1)) = true
  rw [List.length_map, decide_eq_true h, Bool.true_and, List.all_eq_true]
  intro x hx
  obtain ⟨i, _, e⟩ := List.mem_map.mp hx
  rw [← e]; rfl
theorem pd_srtN (l : List Nat) (h : l.length ≤ 1000) : pd 2 (srtN l) = true := pd_ints _ (by rw [(srtI_perm _).length_eq, List.length_map]; exact h)

section
variable {rs : Rw} {m : Kl} {ω : Store} {k : Nat}
def openB (rs : Rw) (m : Kl) : List Nat := (List.range rs.length).filter fun x => (getA m x).isNone
theorem unsettled_eq (h : ω[k]? = some (pob rs m)) (hl : rs.length ≤ 1000) (n0 : Nat) : fu_Pairing_unsettled n0 [.obj k] ω = .ok (.lst (intsD (openB rs m))) ω := by
  have hr := fld_rows h
  have hf := fld_mates h
  have hlen := rows_len (rs := rs)
  have hc : compL 1 (b2 (mV 1) (mFld "Pairing" "mates" (mV 0)) gNotIn) (mV 1) ω [.val (.obj k), .no] (intsD (List.range rs.length)) = .ok (intsD (openB rs m)) := by
    refine compL_filt (fun x hx => ?_) (fun x hx => by simp)
    have e := gNotIn_enc (m := m) (x := x)
    generalize encM m = EM at *
    simp [mFld, hf, e]
  have hrng := asRng1_len (n := rs.length) (by omega)
  rw [range_ints] at hrng
  have hil : (intsD (List.range rs.length)).length ≤ 1000 := by rw [intsD_len, List.length_range]; exact hl
  generalize rowsD rs = R at *
  generalize intsD (List.range rs.length) = Z at *
  simp only [fu_Pairing_unsettled, m_Pairing_unsettled, fuOf, envS]
  simp [-gLen, mFld, hr, hlen, hrng, hil, hc, demote, dmS]
end

theorem pd_up : ∀ {k : Nat} {x : D}, pd k x = true → pd (k + 1) x = true
  | 0, x, h => by cases h
  | k + 1, x, h => by
    cases x with
    | non => rfl
    | bl b => rfl
    | int i => rfl
    | str s => rfl
    | lst xs =>
      have h : (decide (xs.length ≤ 1000) && xs.all (pd k)) = true := h
      rw [Bool.and_eq_true, List.all_eq_true] at h
      show (decide (xs.length ≤ 1000) && xs.all (pd (k + 1))) = true
      rw [Bool.and_eq_true, List.all_eq_true]
      exact ⟨h.1, fun y hy => pd_up (h.2 y hy)⟩
    | tup xs =>
      have h : (decide (xs.length ≤ 1000) && xs.all (pd k)) = true := h
      rw [Bool.and_eq_true, List.all_eq_true] at h
      show (decide (xs.length ≤ 1000) && xs.all (pd (k + 1))) = true
      rw [Bool.and_eq_true, List.all_eq_true]
      exact ⟨h.1, fun y hy => pd_up (h.2 y hy)⟩
    | _ => cases h
theorem pd_lst {k : Nat} {xs : List D} (hl : xs.length ≤ 1000) (h : ∀ x ∈ xs, pd k x = true) : pd (k + 1) (.lst xs) = true := by
  show (decide (xs.length ≤ 1000) && xs.all (pd k)) = true
  rw [Bool.and_eq_true, List.all_eq_true, decide_eq_true_eq]
  exact ⟨hl, h⟩
theorem pd_intsD {l : List Nat} (h : l.length ≤ 1000) : pd 2 (.lst (intsD l)) = true := pd_lst (by rw [intsD_len]; exact h) fun x hx => by
  unfold intsD at hx
  obtain ⟨a, _, e⟩ := List.mem_map.mp hx
  rw [← e]; rfl
/-! ### pairs, papers, twins, views -/
theorem compL_gen {i : Nat} {tt : Env' → Store → Res Bool} {me : M} {ω : Store} {ρ : Env'} {p : Nat → Bool} {g : Nat → D} : ∀ {l : List Nat}, (∀ x ∈ l, tt (ρ.set i (.val (.int (x : Int)))) ω = .ok (p x)) → (∀ x ∈ l, p x = true → me (ρ.set i (.val (.int (x : Int)))) ω = .ok (g x)) → compL i tt me ω ρ (intsD l) = .ok ((l.filter p).map g)
  | [], _, _ => rfl
  | a :: l, h1, h2 => by
    have ih := compL_gen (p := p) (g := g) (fun x hx => h1 x (List.mem_cons_of_mem _ hx)) (fun x hx => h2 x (List.mem_cons_of_mem _ hx))
    show compL i tt me ω ρ (.int (a : Int) :: intsD l) = _
    unfold compL
    rw [h1 a List.mem_cons_self]
    rw [List.filter_cons]
    cases e : p a with
    | true =>
      dsimp only
      rw [h2 a List.mem_cons_self e]
      dsimp only
      rw [ih]; rfl
    | false =>
      dsimp only
      rw [ih]; rfl
def srtNat (l : List Nat) : List Nat := (srtI (l.map fun (i : Nat) => (i : Int))).map Int.toNat
theorem srtN_nat (l : List Nat) : srtN l = .lst (intsD (srtNat l)) := by
  unfold srtN srtNat intsD
  rw [List.map_map]
  congr 1
  apply List.map_congr_left
  intro x hx
  have hx := (srtI_perm _).mem_iff.mp hx
  obtain ⟨a, _, e⟩ := List.mem_map.mp hx
  show D.int x = D.int ((x.toNat : Nat) : Int)
  rw [← e]; rfl
theorem srtNat_mem {l : List Nat} {x : Nat} : x ∈ srtNat l ↔ x ∈ l := by
  unfold srtNat
  rw [List.mem_map]
  constructor
  · rintro ⟨y, hy, e⟩
    obtain ⟨a, ha, q⟩ := List.mem_map.mp ((srtI_perm _).mem_iff.mp hy)
    rw [← e, ← q]; exact ha
  · intro h
    exact ⟨(x : Int), (srtI_perm _).mem_iff.mpr (List.mem_map.mpr ⟨x, h, rfl⟩), rfl⟩
theorem srtNat_len {l : List Nat} : (srtNat l).length = l.length := by
  unfold srtNat
  rw [List.length_map, (srtI_perm _).length_eq, List.length_map]
theorem inF_ints {x : Nat} : ∀ {l : List Nat}, inF (.int (x : Int)) (intsD l) = some (decide (x ∈ l))
  | [] => rfl
  | a :: l => by
    have ih := inF_ints (x := x) (l := l)
    have h : inF (.int (x : Int)) (intsD (a :: l)) = (match eqF (.int (a : Int)) (.int (x : Int)), inF (.int (x : Int)) (intsD l) with
      | some a, some b => some (a || b)
      | _, _ => none) := rfl
    rw [h, ih]
    show some (decide ((a : Int) = (x : Int)) || decide (x ∈ l)) = _
    congr 1
    rw [← Bool.decide_or]
    refine decide_eq_decide.mpr ?_
    rw [List.mem_cons]
    constructor
    · rintro (q | q)
      · left; omega
      · exact .inr q
    · rintro (q | q)
      · left; omega
      · exact .inr q
section
variable {rs : Rw} {m : Kl} {ω : Store} {k : Nat}
theorem gIn_ints {x : Nat} {l : List Nat} : gIn (.int (x : Int)) (.lst (intsD l)) = .ok (.bl (decide (x ∈ l))) := by
  show (match inF (.int (x : Int)) (intsD l) with
    | some b => Res.ok (D.bl b)
    | none => .stuck) = _
  rw [inF_ints]
theorem gNotIn_ints {x : Nat} {l : List Nat} : gNotIn (.int (x : Int)) (.lst (intsD l)) = .ok (.bl (!decide (x ∈ l))) := by
  show (match inF (.int (x : Int)) (intsD l) with
    | some b => Res.ok (D.bl (!b))
    | none => .stuck) = _
  rw [inF_ints]
def mateN (m : Kl) (x : Nat) : Nat := (getA m x).getD 0
theorem mate_at {x : Nat} (h : x ∈ m.map (·.1)) : gIx (.dK (encM m)) (.int (x : Int)) = .ok (.int (mateN m x : Int)) := by
  have h := getA_keys.mpr h
  unfold mateN
  cases e : getA m x with
  | none => exact absurd e h
  | some w => exact gIx_enc e
end

section
variable {rs : Rw} {m : Kl} {ω : Store} {k : Nat}
def pairL (m : Kl) : List Nat := (srtNat (m.map (·.1))).filter fun x => decide (x < mateN m x)
def pairD (m : Kl) (x : Nat) : D := .tup [.int (x : Int), .int (mateN m x : Int)]
def pairsD (m : Kl) : D := .lst ((pairL m).map (pairD m))
theorem pairs_eq (h : ω[k]? = some (pob rs m)) (hl : m.length < 64) (n0 : Nat) : fu_Pairing_pairs n0 [.obj k] ω = .ok (pairsD m) ω := by
  have hf := fld_mates h
  have hs := gSorted_enc hl
  rw [srtN_nat] at hs
  have hm : ∀ x ∈ srtNat (m.map (·.1)), gIx (.dK (encM m)) (.int (x : Int)) = .ok (.int (mateN m x : Int)) := fun x hx => mate_at (srtNat_mem.mp hx)
  have hlen : (intsD (srtNat (m.map (·.1)))).length ≤ 1000 := by rw [intsD_len, srtNat_len, List.length_map]; omega
  unfold pairsD pairL
  generalize srtNat (m.map (·.1)) = SL at *
  generalize encM m = EM at *
  have hc : compL 1 (b2 (mV 1) (m2 (mFld "Pairing" "mates" (mV 0)) (mV 1) gIx) gLt) (mTup (aCons (mV 1) (aCons (m2 (mFld "Pairing" "mates" (mV 0)) (mV 1) gIx) aNil))) ω [.val (.obj k), .no] (intsD SL) = .ok ((SL.filter fun x => decide (x < mateN m x)).map (pairD m)) := by
    refine compL_gen (fun x hx => ?_) (fun x hx _ => ?_)
    · have e := hm x hx
      simp [mFld, hf, e]
    · have e := hm x hx
      unfold pairD
      simp [mFld, hf, e]
  generalize intsD SL = SD at *
  simp only [fu_Pairing_pairs, m_Pairing_pairs, fuOf, envS]
  simp [mFld, hf, hs, hlen, hc, demote, dmS]
end

theorem srtNat_up (l : List Nat) : (srtNat l).Pairwise (· ≤ ·) := by
  unfold srtNat
  refine List.pairwise_map.mpr ((srtI_up _).imp fun {a b} h => ?_)
  omega
theorem srtNat_perm (l : List Nat) : (srtNat l).Perm l := by
  unfold srtNat
  have := (srtI_perm (l.map fun (i : Nat) => (i : Int))).map Int.toNat
  rw [List.map_map] at this
  have e : (Int.toNat ∘ fun (i : Nat) => (i : Int)) = id := by funext x; rfl
  rw [e, List.map_id] at this
  exact this

section
variable {rs : Rw} {m : Kl} {ω : Store} {k : Nat}
theorem settled_eq (h : ω[k]? = some (pob rs m)) (hl : m.length < 64) (n0 : Nat) : fu_Pairing_settled n0 [.obj k] ω = .ok (srtN (m.map (·.1))) ω := by
  have hf := fld_mates h
  have hs := gSorted_enc hl
  generalize encM m = EM at *
  simp only [fu_Pairing_settled, m_Pairing_settled, fuOf, envS]
  simp [mFld, hf, hs]
end

/-! ### the law's own book of pairs -/
section
variable {rs : Rw} {m : Kl}
def pr2 (m : Kl) (x : Nat) : Kl := [(x, mateN m x), (mateN m x, x)]
def bkD (m : Kl) (l : List Nat) : Kl := l.flatMap (pr2 m)
theorem bk_app {l : List Nat} {x : Nat} : bkD m (l ++ [x]) = bkD m l ++ [(x, mateN m x)] ++ [(mateN m x, x)] := by simp [bkD, pr2]
theorem bk_len : ∀ {l : List Nat}, (bkD m l).length = 2 * l.length
  | [] => rfl
  | a :: l => by
    have ih := bk_len (l := l)
    have : bkD m (a :: l) = [(a, mateN m a), (mateN m a, a)] ++ bkD m l := rfl
    rw [this, List.length_append, ih]
    show 2 + 2 * l.length = 2 * (l.length + 1)
    omega
theorem bk_keys {y : Nat} : ∀ {l : List Nat}, y ∈ (bkD m l).map (·.1) ↔ ∃ z ∈ l, y = z ∨ y = mateN m z
  | [] => by simp [bkD]
  | a :: l => by
    have ih := bk_keys (y := y) (l := l)
    have : bkD m (a :: l) = [(a, mateN m a), (mateN m a, a)] ++ bkD m l := rfl
    rw [this, List.map_append, List.mem_append, ih]
    simp only [List.map_cons, List.map_nil, List.mem_cons, List.not_mem_nil, or_false]
    constructor
    · rintro (h | ⟨z, h1, h2⟩)
      · exact ⟨a, .inl rfl, h⟩
      · exact ⟨z, .inr h1, h2⟩
    · rintro ⟨z, h1 | h1, h2⟩
      · subst h1; exact .inl h2
      · exact .inr ⟨z, h1, h2⟩
theorem mateN_some {x : Nat} (h : x ∈ m.map (·.1)) : getA m x = some (mateN m x) := by
  have h := getA_keys.mpr h
  unfold mateN
  cases e : getA m x with
  | none => exact absurd e h
  | some w => rfl
theorem mateN_of {x w : Nat} (h : getA m x = some w) : mateN m x = w := by
  unfold mateN
  rw [h]; rfl
theorem key_of {x w : Nat} (h : getA m x = some w) : x ∈ m.map (·.1) := getA_keys.mp (by rw [h]; exact fun q => by cases q)
theorem pairL_mem {x : Nat} : x ∈ pairL m ↔ x ∈ m.map (·.1) ∧ x < mateN m x := by
  unfold pairL
  rw [List.mem_filter, srtNat_mem, decide_eq_true_eq]
theorem pairL_up (hd : (m.map (·.1)).Nodup) : (pairL m).Pairwise (· < ·) := by
  unfold pairL
  refine List.Pairwise.filter _ ?_
  have h1 := srtNat_up (m.map (·.1))
  have h2 : (srtNat (m.map (·.1))).Nodup := (srtNat_perm _).nodup_iff.mpr hd
  refine (h1.and h2).imp fun {a b} h => ?_
  exact Nat.lt_of_le_of_ne h.1 h.2
theorem pairL_len : (pairL m).length ≤ m.length := by
  unfold pairL
  refine Nat.le_trans (List.length_filter_le _ _) ?_
  rw [srtNat_len, List.length_map]
  exact Nat.le_refl _
theorem mate_back {fit : Nat → Nat → Bool} {n : Nat} (M : Mat fit n (getA m)) {x : Nat} (h : x ∈ m.map (·.1)) : getA m (mateN m x) = some x ∧ mateN m (mateN m x) = x := by
  have e := M.sym _ _ (mateN_some h)
  exact ⟨e, mateN_of e⟩
theorem bk_fresh {fit : Nat → Nat → Bool} {n : Nat} (M : Mat fit n (getA m)) {x : Nat} (hx : x ∈ pairL m) {l : List Nat} (h : ∀ z ∈ l, z ∈ pairL m ∧ z ≠ x) : x ∉ (bkD m l).map (·.1) ∧ mateN m x ∉ (bkD m l).map (·.1) := by
  obtain ⟨k1, lt1⟩ := pairL_mem.mp hx
  obtain ⟨b1, b2⟩ := mate_back M k1
  constructor
  · rw [bk_keys]
    rintro ⟨z, hz, e | e⟩
    · exact (h z hz).2 e.symm
    · obtain ⟨k2, lt2⟩ := pairL_mem.mp (h z hz).1
      obtain ⟨c1, c2⟩ := mate_back M k2
      rw [← e] at c2 lt2
      omega
  · rw [bk_keys]
    rintro ⟨z, hz, e | e⟩
    · obtain ⟨k2, lt2⟩ := pairL_mem.mp (h z hz).1
      rw [← e, b2] at lt2
      omega
    · obtain ⟨k2, lt2⟩ := pairL_mem.mp (h z hz).1
      obtain ⟨c1, c2⟩ := mate_back M k2
      rw [← e, b2] at c2
      exact (h z hz).2 c2.symm
theorem bk_nodup {fit : Nat → Nat → Bool} {n : Nat} (M : Mat fit n (getA m)) : ∀ {l : List Nat}, l.Nodup → (∀ z ∈ l, z ∈ pairL m) → ((bkD m l).map (·.1)).Nodup
  | [], _, _ => List.nodup_nil
  | a :: l, hn, h => by
    have ih := bk_nodup M (List.nodup_cons.mp hn).2 (fun z hz => h z (List.mem_cons_of_mem _ hz))
    have ha := h a List.mem_cons_self
    obtain ⟨f1, f2⟩ := bk_fresh M ha (l := l) (fun z hz => ⟨h z (List.mem_cons_of_mem _ hz), fun e => by subst e; exact (List.nodup_cons.mp hn).1 hz⟩)
    have lt := (pairL_mem.mp ha).2
    show (a :: mateN m a :: (bkD m l).map (·.1)).Nodup
    refine List.nodup_cons.mpr ⟨fun hh => ?_, List.nodup_cons.mpr ⟨f2, ih⟩⟩
    rcases List.mem_cons.mp hh with e | e
    · omega
    · exact f1 e
theorem bk_mem {l : List Nat} {z : Nat} (h : z ∈ l) : (z, mateN m z) ∈ bkD m l ∧ (mateN m z, z) ∈ bkD m l := by
  unfold bkD
  exact ⟨List.mem_flatMap.mpr ⟨z, h, by simp [pr2]⟩, List.mem_flatMap.mpr ⟨z, h, by simp [pr2]⟩⟩
theorem bk_get (I : PInv rs m) : getA (bkD m (pairL m)) = getA m := by
  have hnl : (pairL m).Nodup := (pairL_up I.nd).imp fun {a b} h => Nat.ne_of_lt h
  have hn := bk_nodup I.mat hnl (fun z hz => hz)
  funext y
  cases e : getA m y with
  | some w =>
    have ky := key_of e
    have ew := mateN_of e
    have eb := I.mat.sym _ _ e
    have hne : y ≠ w := fun q => by
      subst q
      obtain ⟨a, b, h1, h2, h3, _⟩ := fit_some (I.mat.fit _ _ e)
      rw [Nat.min_self] at h1
      rw [Nat.max_self] at h2
      rw [h1] at h2
      cases h2
      exact h3 rfl
    refine getA_of hn ?_
    by_cases lt : y < w
    · have hy : y ∈ pairL m := pairL_mem.mpr ⟨ky, by rw [ew]; exact lt⟩
      have := (bk_mem (m := m) hy).1
      rw [ew] at this
      exact this
    · have hw : w ∈ pairL m := pairL_mem.mpr ⟨key_of eb, by rw [mateN_of eb]; omega⟩
      have := (bk_mem (m := m) hw).2
      rw [mateN_of eb] at this
      exact this
  | none =>
    cases q : getA (bkD m (pairL m)) y with
    | none => rfl
    | some w =>
      exfalso
      have := key_of q
      rw [bk_keys] at this
      obtain ⟨z, hz, h | h⟩ := this
      · subst h
        rw [mateN_some (pairL_mem.mp hz).1] at e
        cases e
      · obtain ⟨c1, _⟩ := mate_back I.mat (pairL_mem.mp hz).1
        rw [← h, e] at c1
        cases c1
theorem keys_perm {a b : Kl} (ha : (a.map (·.1)).Nodup) (hb : (b.map (·.1)).Nodup) (h : getA a = getA b) : (a.map (·.1)).Perm (b.map (·.1)) :=
  (List.perm_ext_iff_of_nodup ha hb).mpr fun x => by rw [← getA_keys, ← getA_keys, h]
theorem put_new {a : Kl} {i j : Nat} (h : i ∉ a.map (·.1)) : putA a i j = a ++ [(i, j)] := by
  have e : hasK a i = false := by
    have h2 := hasK_get (m := a) (x := i)
    cases q : getA a i with
    | none =>
      rw [q] at h2
      cases z : hasK a i with
      | false => rfl
      | true => rw [z] at h2; cases h2
    | some w => exact absurd (key_of q) h
  unfold putA
  rw [e]; rfl
theorem get_no {a : Kl} {i : Nat} (h : i ∉ a.map (·.1)) : getA a i = none := by
  cases q : getA a i with
  | none => rfl
  | some w => exact absurd (key_of q) h
/-! the told pairs are sorted -/
theorem rises_pairs : ∀ {l : List Nat}, l.Pairwise (· < ·) → rises (l.map (pairD m)) = true
  | [], _ => rfl
  | a :: l, h => by
    obtain ⟨h1, h2⟩ := List.pairwise_cons.mp h
    have ih := rises_pairs h2
    rw [List.map_cons]
    unfold rises
    rw [ih, Bool.and_true]
    show (l.map (pairD m)).all (overI (a : Int)) = true
    rw [List.all_eq_true]
    intro d hd
    obtain ⟨z, hz, e⟩ := List.mem_map.mp hd
    subst e
    have := h1 z hz
    show decide ((a : Int) < (z : Int)) = true
    rw [decide_eq_true_eq]
    omega
theorem sortP_pairs (I : PInv rs m) : gSortP (pairsD m) = .ok (pairsD m) := by
  unfold gSortP pairsD
  dsimp only
  rw [if_pos (rises_pairs (pairL_up I.nd))]
def pairP (m : Kl) (x : Nat) : PyData := .tuple [.int (x : Int), .int (mateN m x : Int)]
theorem pys_pairs : ∀ l : List Nat, D.pys (l.map (pairD m)) = some (l.map (pairP m))
  | [] => rfl
  | a :: l => by
    have ih := pys_pairs l
    have : D.pys ((a :: l).map (pairD m)) = (match D.pys (l.map (pairD m)) with
      | none => none
      | some y => some (pairP m a :: y)) := rfl
    rw [this, ih]; rfl
theorem lay_pairs : ∀ l : List Nat, PyData.canLayAll0 (l.map (pairP m)) = true ∧ PyData.depthAll (l.map (pairP m)) ≤ 2
  | [] => by simp [PyData.canLayAll0, PyData.depthAll]
  | a :: l => by
    obtain ⟨h1, h2⟩ := lay_pairs l
    rw [List.map_cons]
    refine ⟨by simp [PyData.canLayAll0, PyData.canLay0, pairP, h1], ?_⟩
    simp only [PyData.depthAll, PyData.depth, pairP]
    omega
theorem ne_pairs : gNe (pairsD m) (pairsD m) = .ok (.bl false) := by
  have e1 : D.py (pairsD m) = some (.list ((pairL m).map (pairP m))) := by
    show (D.pys ((pairL m).map (pairD m))).map PyData.list = _
    rw [pys_pairs]; rfl
  have e3 : gEqS (pairsD m) (pairsD m) = none := rfl
  obtain ⟨h1, h2⟩ := lay_pairs (m := m) (pairL m)
  have hc : (PyData.list ((pairL m).map (pairP m))).canLay0 = true := by
    generalize (pairL m).map (pairP m) = L at *
    simp [PyData.canLay0, h1]
  have hs : SeqAt.shaped (.list ((pairL m).map (pairP m))) = true := by
    generalize (pairL m).map (pairP m) = L at *
    simp [SeqAt.shaped, PyData.canLay0, PyData.depth, h1]
    omega
  unfold gNe
  rw [e3]
  dsimp only
  unfold gEqD
  rw [e1]
  dsimp only
  rw [hs, SeqAt.eqv_refl _ hc]
  rfl
end

/-! ### the law's table -/
def keyT (l : List Nat) : List Key := l.map fun (i : Nat) => (Sum.inl (i : Int) : Key)
def encT (B : Tab) : List (List Key × D) := B.map fun p => (keyT p.1, D.int (p.2 : Int))
theorem keyT_inj : ∀ {a b : List Nat}, keyT a = keyT b → a = b
  | [], [], _ => rfl
  | [], _ :: _, h => by cases h
  | _ :: _, [], h => by cases h
  | a :: l, b :: r, h => by
    have h : (Sum.inl (a : Int) : Key) :: keyT l = (Sum.inl (b : Int) : Key) :: keyT r := h
    injection h with h1 h2
    injection h1 with h1
    rw [keyT_inj h2, show a = b by omega]
theorem keyT_flat : ∀ {l : List Nat}, D.flatKs (intsD l) = some (keyT l)
  | [] => rfl
  | a :: l => by
    have ih := keyT_flat (l := l)
    show (match D.flatK (.int (a : Int)), D.flatKs (intsD l) with
      | some x, some y => some (x :: y)
      | _, _ => none) = _
    rw [ih]; rfl
theorem keyT_kD {l : List Nat} : (keyT l).map kD = intsD l := by
  unfold keyT intsD
  rw [List.map_map]; rfl
theorem encT_get {B : Tab} {k : List Nat} : kget (encT B) (keyT k) = (tget B k).map fun w => .int (w : Int) := by
  induction B with
  | nil => rfl
  | cons p r ih =>
    show (if keyT p.1 = keyT k then some (D.int p.2) else kget (encT r) _) = (if p.1 = k then some p.2 else tget r k).map _
    by_cases e : p.1 = k
    · rw [if_pos (by rw [e]), if_pos e]; rfl
    · rw [if_neg (fun q => e (keyT_inj q)), if_neg e, ih]
theorem encT_put {B : Tab} {k : List Nat} {v : Nat} : putD (encT B) (keyT k) (.int (v : Int)) = encT (tput B k v) := by
  have key : ((encT B).any fun kv => decide (kv.1 = keyT k)) = B.any (fun p => decide (p.1 = k)) := by
    unfold encT
    rw [List.any_map]
    congr 1
    funext p
    show decide (keyT p.1 = keyT k) = decide (p.1 = k)
    by_cases e : p.1 = k
    · rw [decide_eq_true e, decide_eq_true (by rw [e])]
    · rw [decide_eq_false e, decide_eq_false (fun q => e (keyT_inj q))]
  unfold putD tput
  rw [key]
  cases h : B.any (fun p => decide (p.1 = k)) with
  | true =>
    rw [if_pos rfl, if_pos rfl]
    unfold encT
    rw [List.map_map, List.map_map]
    congr 1
    funext p
    show (if keyT p.1 = keyT k then (keyT p.1, D.int (v : Int)) else (keyT p.1, D.int (p.2 : Int))) = (keyT (if p.1 = k then (p.1, v) else p).1, D.int ((if p.1 = k then (p.1, v) else p).2 : Int))
    by_cases e : p.1 = k
    · rw [if_pos (by rw [e]), if_pos e]
    · rw [if_neg (fun q => e (keyT_inj q)), if_neg e]
  | false =>
    rw [if_neg Bool.false_ne_true, if_neg Bool.false_ne_true]
    unfold encT
    rw [List.map_append]; rfl
theorem encT_len {B : Tab} : (encT B).length = B.length := List.length_map ..
theorem gPut_encT {B : Tab} {k : List Nat} {v : Nat} (h : B.length < 1000000) : gPut (.dT (encT B)) (.tup (intsD k)) (.int (v : Int)) = some (D.dT (encT (tput B k v))) := by
  show (match D.flatKs (intsD k) with
      | some q => @ite _ ((encT B).length < 1000000) (Classical.propDecidable _) (some (D.dT (putD (encT B) q (.int (v : Int))))) none
      | none => none) = _
  rw [keyT_flat, ← encT_put]
  exact @if_pos _ (Classical.propDecidable _) (by rw [encT_len]; exact h) _ _ _
theorem dget_encT {B : Tab} {k : List Nat} : dget (.dT (encT B)) (.tup (intsD k)) = some ((tget B k).map fun w => .int (w : Int)) := by
  show (D.flatKs (intsD k)).map (kget (encT B) ·) = _
  rw [keyT_flat]
  show some (kget (encT B) (keyT k)) = _
  rw [encT_get]
theorem gGet2_encT {B : Tab} {k : List Nat} : gGet2 (.dT (encT B)) (.tup (intsD k)) (.int 0) = .ok (.int (((tget B k).getD 0 : Nat) : Int)) := by
  unfold gGet2
  rw [dget_encT]
  cases tget B k <;> rfl
theorem gIx_encT {B : Tab} {k : List Nat} {v : Nat} (h : tget B k = some v) : gIx (.dT (encT B)) (.tup (intsD k)) = .ok (.int (v : Int)) := by
  have e : gIx (.dT (encT B)) (.tup (intsD k)) = (match dget (D.dT (encT B)) (.tup (intsD k)) with
      | some (some d) => Res.ok d
      | _ => .stuck) := rfl
  rw [e, dget_encT, h]; rfl
theorem tput_len {B : Tab} {k : List Nat} {v : Nat} : (tput B k v).length ≤ B.length + 1 := by
  unfold tput
  split
  · rw [List.length_map]; omega
  · rw [List.length_append]; exact Nat.le_refl _
theorem bump_len {B : Tab} {k : List Nat} {v : Nat} : (bump B k v).length ≤ B.length + 1 := tput_len
theorem max_int (a b : Nat) : (if (b : Int) > (a : Int) then (b : Int) else (a : Int)) = ((max a b : Nat) : Int) := by
  by_cases h : b > a
  · rw [if_pos (by omega)]
    omega
  · rw [if_neg (by omega)]
    omega
/-- one entry more: e is what the mirror puts -/
theorem put_tab {n0 : Nat} {B : List Nat} {mk mv : M} {ρ : Env'} {ω : Store} {F : Tab} {k : List Nat} {v : Nat} (h0 : ρ[3]? = some (.own (.dT (encT F)))) (h1 : mk ρ ω = .ok (.tup (intsD k))) (h2 : mv ρ ω = .ok (.int (v : Int))) (hm : F.length < 1000000) :
    sPut 3 B mk (m2 (mGet2 (mV 3) mk (mC (.int 0))) mv gMax2) n0 ρ ω = .nx (ρ.set 3 (.own (.dT (encT (bump F k v))))) ω := by
  have e3 : (mV 3) ρ ω = .ok (.dT (encT F)) := by
    show (match ρ[3]? with
      | some (.val d) => Res.ok d
      | some (.own d) => .ok d
      | _ => .stuck) = _
    rw [h0]
  have eg := gGet2_encT (B := F) (k := k)
  have em : (m2 (mGet2 (mV 3) mk (mC (.int 0))) mv gMax2) ρ ω = .ok (.int ((max ((tget F k).getD 0) v : Nat) : Int)) := by
    have h : mGet2 (mV 3) mk (mC (.int 0)) ρ ω = .ok (.int (((tget F k).getD 0 : Nat) : Int)) := by
      unfold mGet2
      rw [e3]
      show (if isDct (.dT (encT F)) = true then (mk ρ ω).bind fun y => ((mC (.int 0)) ρ ω).bind fun z => gGet2 (.dT (encT F)) y z else .stuck) = _
      rw [if_pos (show isDct (.dT (encT F)) = true from rfl), h1]
      exact eg
    show ((mGet2 (mV 3) mk (mC (.int 0)) ρ ω).bind fun x => (mv ρ ω).bind fun y => gMax2 x y) = _
    rw [h, h2]
    show Res.ok (D.int (if (v : Int) > (((tget F k).getD 0 : Nat) : Int) then (v : Int) else (((tget F k).getD 0 : Nat) : Int))) = _
    rw [max_int]
  unfold sPut
  rw [em]
  dsimp only [ofE]
  have e0 : ∀ x : Int, dem B (.int x) ρ = ρ := fun x => rfl
  rw [e0, h1]
  dsimp only
  rw [h0]
  dsimp only
  rw [gPut_encT hm]
  rfl
noncomputable abbrev mtI : T := (sIf (bV (mCall 3 fu__law_fits (aCons (mV 0) (aCons (mV 7) (aCons (mV 2) aNil))))) (sq (sSet 8 (9 :: ([4] ++ [9])) (m1 (mComp 9 [4] (iTupl (mV 4)) (b2 (mV 9) (mV 7) gNe) (mV 9)) gTuple))
    (sPut 3 (([] ++ ([] ++ [])) ++ ([] ++ [])) (mV 8) (m2 (mGet2 (mV 3) (mV 8) (mC (.int 0))) (m2 (mV 5) (mC (.int 1)) gAdd) gMax2))) sNx)
noncomputable abbrev mtR : T := (sq (sSet 6 ([] ++ ([2] ++ [])) (m2 (mV 4) (mTup (aCons (mV 2) aNil)) gCatT))
    (sq (sPut 3 (([] ++ ([] ++ [])) ++ []) (mV 6) (m2 (mGet2 (mV 3) (mV 6) (mC (.int 0))) (mV 5) gMax2))
    (sFor [4] (iTupl (mV 4)) (gN 7) mtI)))
section
variable {rs : Rw} {ω : Store} {n0 : Nat}
theorem most_in {B : Tab} {a many : Nat} {free : List Nat} {x6 : Sl} (ha : a < rs.length) (hfl : free.length ≤ 100) : ∀ (l : List Nat) (F : Tab) (x7 x8 : Sl), (∀ o ∈ l, o < rs.length) → F.length + l.length < 900000 →
    ∃ x7' x8', mFor (gN 7) mtI (intsD l) n0 [.val (rowsD rs), .val (.dT (encT B)), .val (.int (a : Int)), .own (.dT (encT F)), .val (.tup (intsD free)), .val (.int (many : Int)), x6, x7, x8, .no] ω
      = .nx [.val (rowsD rs), .val (.dT (encT B)), .val (.int (a : Int)), .own (.dT (encT (tabIn (fitB rs) a free many l F))), .val (.tup (intsD free)), .val (.int (many : Int)), x6, x7', x8', .no] ω
  | [], F, x7, x8, _, _ => ⟨x7, x8, rfl⟩
  | o :: l, F, x7, x8, hl, hF => by
    rw [List.length_cons] at hF
    have ho := hl o List.mem_cons_self
    have hl' : ∀ o ∈ l, o < rs.length := fun x hx => hl x (List.mem_cons_of_mem _ hx)
    have ef := lawfits_eq ho ha ω.length ω
    have cons := for_one (i := 7) (b := mtI) (x := .int (o : Int)) (xs := intsD l) (ρ := [.val (rowsD rs), .val (.dT (encT B)), .val (.int (a : Int)), .own (.dT (encT F)), .val (.tup (intsD free)), .val (.int (many : Int)), x6, x7, x8, .no]) (ω := ω) (n0 := n0) (by show 7 < 10; decide)
    by_cases cf : fitB rs o a = true
    · rw [cf] at ef
      have st : mtI n0 ([.val (rowsD rs), .val (.dT (encT B)), .val (.int (a : Int)), .own (.dT (encT F)), .val (.tup (intsD free)), .val (.int (many : Int)), x6, x7, x8, .no].set 7 (.val (.int (o : Int)))) ω = .nx [.val (rowsD rs), .val (.dT (encT B)), .val (.int (a : Int)), .own (.dT (encT (bump F (free.filter fun x => decide (x ≠ o)) (many + 1)))), .val (.tup (intsD free)), .val (.int (many : Int)), x6, .val (.int (o : Int)), .val (.tup (intsD (free.filter fun x => decide (x ≠ o)))), .no] ω := by
        have hd : demote [4] [.val (rowsD rs), .val (.dT (encT B)), .val (.int (a : Int)), .own (.dT (encT F)), .val (.tup (intsD free)), .val (.int (many : Int)), x6, .val (.int (o : Int)), x8, .no] = [.val (rowsD rs), .val (.dT (encT B)), .val (.int (a : Int)), .own (.dT (encT F)), .val (.tup (intsD free)), .val (.int (many : Int)), x6, .val (.int (o : Int)), x8, .no] := by
          simp [demote, dmS]
        have hc : compL 9 (b2 (mV 9) (mV 7) gNe) (mV 9) ω [.val (rowsD rs), .val (.dT (encT B)), .val (.int (a : Int)), .own (.dT (encT F)), .val (.tup (intsD free)), .val (.int (many : Int)), x6, .val (.int (o : Int)), x8, .no] (intsD free) = .ok (intsD (free.filter fun x => decide (x ≠ o))) := by
          refine compL_filt (fun x hx => ?_) (fun x hx => by simp)
          generalize rowsD rs = R at *
          generalize encT F = EF at *
          generalize encT B = EB at *
          generalize intsD free = FR at *
          by_cases q : x = o
          · simp [q]
          · have q2 : ¬ (x : Int) = (o : Int) := by omega
            simp [q, q2]
        have hl3 : (intsD free).length ≤ 1000 := by rw [intsD_len]; omega
        have p1 : sPut 3 (([] ++ ([] ++ [])) ++ ([] ++ [])) (mV 8) (m2 (mGet2 (mV 3) (mV 8) (mC (.int 0))) (m2 (mV 5) (mC (.int 1)) gAdd) gMax2) n0 [.val (rowsD rs), .val (.dT (encT B)), .val (.int (a : Int)), .own (.dT (encT F)), .val (.tup (intsD free)), .val (.int (many : Int)), x6, .val (.int (o : Int)), .val (.tup (intsD (free.filter fun x => decide (x ≠ o)))), .no] ω = _ :=
          put_tab (k := free.filter fun x => decide (x ≠ o)) (v := many + 1) rfl rfl rfl (by omega)
        have hfr : D.frees (intsD (free.filter fun x => decide (x ≠ o))) = true := intsD_free
        have s1 : sq (sSet 8 (9 :: ([4] ++ [9])) (m1 (mComp 9 [4] (iTupl (mV 4)) (b2 (mV 9) (mV 7) gNe) (mV 9)) gTuple)) (sPut 3 (([] ++ ([] ++ [])) ++ ([] ++ [])) (mV 8) (m2 (mGet2 (mV 3) (mV 8) (mC (.int 0))) (m2 (mV 5) (mC (.int 1)) gAdd) gMax2)) n0 [.val (rowsD rs), .val (.dT (encT B)), .val (.int (a : Int)), .own (.dT (encT F)), .val (.tup (intsD free)), .val (.int (many : Int)), x6, .val (.int (o : Int)), x8, .no] ω = .nx [.val (rowsD rs), .val (.dT (encT B)), .val (.int (a : Int)), .own (.dT (encT (bump F (free.filter fun x => decide (x ≠ o)) (many + 1)))), .val (.tup (intsD free)), .val (.int (many : Int)), x6, .val (.int (o : Int)), .val (.tup (intsD (free.filter fun x => decide (x ≠ o)))), .no] ω := by
          refine (sq_nx (ρ' := [.val (rowsD rs), .val (.dT (encT B)), .val (.int (a : Int)), .own (.dT (encT F)), .val (.tup (intsD free)), .val (.int (many : Int)), x6, .val (.int (o : Int)), .val (.tup (intsD (free.filter fun x => decide (x ≠ o)))), .no]) (ω' := ω) ?_).trans (p1.trans rfl)
          generalize intsD (free.filter fun x => decide (x ≠ o)) = FF at *
          generalize rowsD rs = R at *
          generalize encT F = EF at *
          generalize encT B = EB at *
          generalize intsD free = FR at *
          simp [hd, hc, hl3, hfr]
        have t1 : bV (mCall 3 fu__law_fits (aCons (mV 0) (aCons (mV 7) (aCons (mV 2) aNil)))) [.val (rowsD rs), .val (.dT (encT B)), .val (.int (a : Int)), .own (.dT (encT F)), .val (.tup (intsD free)), .val (.int (many : Int)), x6, .val (.int (o : Int)), x8, .no] ω = .ok true := by
          generalize rowsD rs = R at *
          simp [ef]
        show mtI n0 [.val (rowsD rs), .val (.dT (encT B)), .val (.int (a : Int)), .own (.dT (encT F)), .val (.tup (intsD free)), .val (.int (many : Int)), x6, .val (.int (o : Int)), x8, .no] ω = _
        unfold mtI sIf
        rw [t1]
        exact s1
      obtain ⟨y7, y8, h⟩ := most_in ha hfl l (bump F (free.filter fun x => decide (x ≠ o)) (many + 1)) (.val (.int (o : Int))) (.val (.tup (intsD (free.filter fun x => decide (x ≠ o))))) hl' (by have := bump_len (B := F) (k := free.filter fun x => decide (x ≠ o)) (v := many + 1); omega)
      refine ⟨y7, y8, (cons.trans ?_).trans (h.trans ?_)⟩
      · rw [st]
      · have : tabIn (fitB rs) a free many (o :: l) F = tabIn (fitB rs) a free many l (bump F (free.filter fun x => decide (x ≠ o)) (many + 1)) := by
          show tabIn (fitB rs) a free many l (if fitB rs o a = true then bump F (free.filter fun x => decide (x ≠ o)) (many + 1) else F) = _
          rw [if_pos cf]
        rw [this]
    · have cf' : fitB rs o a = false := by
        cases z : fitB rs o a with
        | false => rfl
        | true => exact absurd z cf
      rw [cf'] at ef
      have st : mtI n0 ([.val (rowsD rs), .val (.dT (encT B)), .val (.int (a : Int)), .own (.dT (encT F)), .val (.tup (intsD free)), .val (.int (many : Int)), x6, x7, x8, .no].set 7 (.val (.int (o : Int)))) ω = .nx [.val (rowsD rs), .val (.dT (encT B)), .val (.int (a : Int)), .own (.dT (encT F)), .val (.tup (intsD free)), .val (.int (many : Int)), x6, .val (.int (o : Int)), x8, .no] ω := by
        have t1 : bV (mCall 3 fu__law_fits (aCons (mV 0) (aCons (mV 7) (aCons (mV 2) aNil)))) [.val (rowsD rs), .val (.dT (encT B)), .val (.int (a : Int)), .own (.dT (encT F)), .val (.tup (intsD free)), .val (.int (many : Int)), x6, .val (.int (o : Int)), x8, .no] ω = .ok false := by
          generalize rowsD rs = R at *
          simp [ef]
        show mtI n0 [.val (rowsD rs), .val (.dT (encT B)), .val (.int (a : Int)), .own (.dT (encT F)), .val (.tup (intsD free)), .val (.int (many : Int)), x6, .val (.int (o : Int)), x8, .no] ω = _
        unfold mtI sIf
        rw [t1]
        rfl
      obtain ⟨y7, y8, h⟩ := most_in ha hfl l F (.val (.int (o : Int))) x8 hl' (by omega)
      refine ⟨y7, y8, (cons.trans ?_).trans (h.trans ?_)⟩
      · rw [st]
      · have : tabIn (fitB rs) a free many (o :: l) F = tabIn (fitB rs) a free many l F := by
          show tabIn (fitB rs) a free many l (if fitB rs o a = true then bump F (free.filter fun x => decide (x ≠ o)) (many + 1) else F) = _
          rw [if_neg cf]
        rw [this]
end

section
variable {rs : Rw} {ω : Store} {n0 : Nat}
theorem tabIn_len {fit : Nat → Nat → Bool} {a many : Nat} {free : List Nat} : ∀ (l : List Nat) (F : Tab), (tabIn fit a free many l F).length ≤ F.length + l.length
  | [], F => Nat.le_refl _
  | o :: l, F => by
    have ih := tabIn_len (fit := fit) (a := a) (many := many) (free := free) l (if fit o a = true then bump F (free.filter fun x => decide (x ≠ o)) (many + 1) else F)
    have h : (if fit o a = true then bump F (free.filter fun x => decide (x ≠ o)) (many + 1) else F).length ≤ F.length + 1 := by
      split
      · exact bump_len
      · omega
    show (tabIn fit a free many l (if fit o a = true then bump F (free.filter fun x => decide (x ≠ o)) (many + 1) else F)).length ≤ _
    rw [List.length_cons]
    omega
theorem tabRow_len {fit : Nat → Nat → Bool} {a : Nat} {p : List Nat × Nat} {F : Tab} : (tabRow fit a p F).length ≤ F.length + 1 + p.1.length := by
  have h1 := tabIn_len (fit := fit) (a := a) (many := p.2) (free := p.1) p.1 (bump F (p.1 ++ [a]) p.2)
  have h2 := bump_len (B := F) (k := p.1 ++ [a]) (v := p.2)
  show (tabIn fit a p.1 p.2 p.1 (bump F (p.1 ++ [a]) p.2)).length ≤ _
  omega
theorem most_row {B F : Tab} {a : Nat} {p : List Nat × Nat} (ha : a < rs.length) (hfl : p.1.length ≤ 90) (hp : ∀ o ∈ p.1, o < rs.length) (hF : F.length < 800000) (x6 x7 x8 : Sl) :
    ∃ y6 y7 y8, mtR n0 [.val (rowsD rs), .val (.dT (encT B)), .val (.int (a : Int)), .own (.dT (encT F)), .val (.tup (intsD p.1)), .val (.int (p.2 : Int)), x6, x7, x8, .no] ω
      = .nx [.val (rowsD rs), .val (.dT (encT B)), .val (.int (a : Int)), .own (.dT (encT (tabRow (fitB rs) a p F))), .val (.tup (intsD p.1)), .val (.int (p.2 : Int)), y6, y7, y8, .no] ω := by
  have hb := bump_len (B := F) (k := p.1 ++ [a]) (v := p.2)
  obtain ⟨y7, y8, h⟩ := most_in (n0 := n0) (ω := ω) (B := B) (a := a) (many := p.2) (free := p.1) (x6 := .val (.tup (intsD (p.1 ++ [a])))) ha (by omega) p.1 (bump F (p.1 ++ [a]) p.2) x7 x8 hp (by omega)
  refine ⟨.val (.tup (intsD (p.1 ++ [a]))), y7, y8, ?_⟩
  unfold mtR
  have ec : gCatT (.tup (intsD p.1)) (.tup [.int (a : Int)]) = .ok (.tup (intsD (p.1 ++ [a]))) := by
    rw [gCatT_ok (by rw [intsD_len]; show p.1.length + 1 ≤ _; omega)]
    unfold intsD
    rw [List.map_append]; rfl
  have hfr : D.frees (intsD (p.1 ++ [a])) = true := intsD_free
  refine (sq_nx (ρ' := [.val (rowsD rs), .val (.dT (encT B)), .val (.int (a : Int)), .own (.dT (encT F)), .val (.tup (intsD p.1)), .val (.int (p.2 : Int)), .val (.tup (intsD (p.1 ++ [a]))), x7, x8, .no]) (ω' := ω) ?_).trans ?_
  · generalize intsD (p.1 ++ [a]) = FF at *
    generalize rowsD rs = R at *
    generalize encT F = EF at *
    generalize encT B = EB at *
    generalize intsD p.1 = FR at *
    simp [ec, hfr]
  have p1 : sPut 3 (([] ++ ([] ++ [])) ++ []) (mV 6) (m2 (mGet2 (mV 3) (mV 6) (mC (.int 0))) (mV 5) gMax2) n0 [.val (rowsD rs), .val (.dT (encT B)), .val (.int (a : Int)), .own (.dT (encT F)), .val (.tup (intsD p.1)), .val (.int (p.2 : Int)), .val (.tup (intsD (p.1 ++ [a]))), x7, x8, .no] ω = _ :=
    put_tab (k := p.1 ++ [a]) (v := p.2) rfl rfl rfl (by omega)
  refine (sq_nx p1).trans ?_
  have hd : demote [4] [.val (rowsD rs), .val (.dT (encT B)), .val (.int (a : Int)), .own (.dT (encT (bump F (p.1 ++ [a]) p.2))), .val (.tup (intsD p.1)), .val (.int (p.2 : Int)), .val (.tup (intsD (p.1 ++ [a]))), x7, x8, .no] = [.val (rowsD rs), .val (.dT (encT B)), .val (.int (a : Int)), .own (.dT (encT (bump F (p.1 ++ [a]) p.2))), .val (.tup (intsD p.1)), .val (.int (p.2 : Int)), .val (.tup (intsD (p.1 ++ [a]))), x7, x8, .no] := by
    simp [demote, dmS]
  show sFor [4] (iTupl (mV 4)) (gN 7) mtI n0 [.val (rowsD rs), .val (.dT (encT B)), .val (.int (a : Int)), .own (.dT (encT (bump F (p.1 ++ [a]) p.2))), .val (.tup (intsD p.1)), .val (.int (p.2 : Int)), .val (.tup (intsD (p.1 ++ [a]))), x7, x8, .no] ω = _
  unfold sFor
  have hi : iTupl (mV 4) [.val (rowsD rs), .val (.dT (encT B)), .val (.int (a : Int)), .own (.dT (encT (bump F (p.1 ++ [a]) p.2))), .val (.tup (intsD p.1)), .val (.int (p.2 : Int)), .val (.tup (intsD (p.1 ++ [a]))), x7, x8, .no] ω = .ok (intsD p.1) := rfl
  rw [hi]
  dsimp only
  rw [hd]
  exact h
def itemT (p : List Nat × Nat) : D := .tup [.tup (intsD p.1), .int (p.2 : Int)]
theorem items_encT {B : Tab} : itemsD (encT B) = B.map itemT := by
  unfold itemsD encT
  rw [List.map_map]
  apply List.map_congr_left
  intro p _
  show D.tup [.tup ((keyT p.1).map kD), .int (p.2 : Int)] = _
  rw [keyT_kD]; rfl
theorem most_items {B : Tab} {a : Nat} (ha : a < rs.length) : ∀ (l : Tab) (F : Tab) (x4 x5 x6 x7 x8 : Sl), (∀ p ∈ l, p.1.length ≤ 90 ∧ ∀ o ∈ p.1, o < rs.length) → F.length + 91 * l.length < 800000 →
    ∃ y4 y5 y6 y7 y8, mFor (gT [4, 5]) mtR (l.map itemT) n0 [.val (rowsD rs), .val (.dT (encT B)), .val (.int (a : Int)), .own (.dT (encT F)), x4, x5, x6, x7, x8, .no] ω
      = .nx [.val (rowsD rs), .val (.dT (encT B)), .val (.int (a : Int)), .own (.dT (encT (l.foldl (fun F p => tabRow (fitB rs) a p F) F))), y4, y5, y6, y7, y8, .no] ω
  | [], F, x4, x5, x6, x7, x8, _, _ => ⟨x4, x5, x6, x7, x8, rfl⟩
  | p :: l, F, x4, x5, x6, x7, x8, hl, hF => by
    rw [List.length_cons] at hF
    obtain ⟨h1, h2⟩ := hl p List.mem_cons_self
    obtain ⟨y6, y7, y8, h⟩ := most_row (n0 := n0) (ω := ω) (B := B) (F := F) (p := p) ha h1 h2 (by omega) x6 x7 x8
    have hr := tabRow_len (fit := fitB rs) (a := a) (p := p) (F := F)
    obtain ⟨z4, z5, z6, z7, z8, ih⟩ := most_items ha l (tabRow (fitB rs) a p F) (.val (.tup (intsD p.1))) (.val (.int (p.2 : Int))) y6 y7 y8 (fun q hq => hl q (List.mem_cons_of_mem _ hq)) (by omega)
    refine ⟨z4, z5, z6, z7, z8, Eq.trans ?_ ih⟩
    rw [List.map_cons]
    conv => lhs; unfold mFor
    have e : gT [4, 5] (itemT p) [.val (rowsD rs), .val (.dT (encT B)), .val (.int (a : Int)), .own (.dT (encT F)), x4, x5, x6, x7, x8, .no] = some [.val (rowsD rs), .val (.dT (encT B)), .val (.int (a : Int)), .own (.dT (encT F)), .val (.tup (intsD p.1)), .val (.int (p.2 : Int)), x6, x7, x8, .no] := rfl
    rw [e]
    dsimp only
    rw [h]
theorem tab_keys {fit : Nat → Nat → Bool} {a : Nat} {B : Tab} (T : TabOk fit a B) : ∀ p ∈ B, p.1.length ≤ a ∧ ∀ o ∈ p.1, o < a := fun p hp => by
  obtain ⟨h1, μ, M, h2⟩ := T.ok p hp
  refine ⟨by omega, fun o ho => ?_⟩
  rw [← h2] at ho
  exact (freeA_iff.mp ho).1
noncomputable abbrev mtO : T := (sq (sSetO 3 [] (mC (.dT [])))
    (sq (sForT 1 (gT [4, 5]) mtR)
    (sSet 1 [3] (mV 3))))
theorem pow_le {a : Nat} (h : a < 10) : 2 ^ a ≤ 512 := by
  have : 2 ^ a ≤ 2 ^ 9 := Nat.pow_le_pow_right (by decide) (by omega)
  omega
theorem tabs_len {rs : Rw} (hk : ∀ r ∈ rs, r.1 = "necklace" ∨ r.1 = "armring") {a : Nat} (h : a < 10) : (tabsM (fitB rs) a).length ≤ 512 := Nat.le_trans (tabs_ok (gphB hk) a).1.len (pow_le h)
theorem most_step (hk : ∀ r ∈ rs, r.1 = "necklace" ∨ r.1 = "armring") {a : Nat} (ha : a < rs.length) (hn : rs.length < 10) (hω : ω.length ≤ n0) (x3 x4 x5 x6 x7 x8 : Sl) :
    ∃ y3 y4 y5 y6 y7 y8, mtO n0 [.val (rowsD rs), .val (.dT (encT (tabsM (fitB rs) a))), .val (.int (a : Int)), x3, x4, x5, x6, x7, x8, .no] ω
      = .nx [.val (rowsD rs), .val (.dT (encT (tabsM (fitB rs) (a + 1)))), .val (.int (a : Int)), y3, y4, y5, y6, y7, y8, .no] ω := by
  obtain ⟨T, _⟩ := tabs_ok (gphB hk) a
  have hl := tabs_len hk (a := a) (by omega)
  obtain ⟨y4, y5, y6, y7, y8, h⟩ := most_items (n0 := n0) (ω := ω) (B := tabsM (fitB rs) a) ha (tabsM (fitB rs) a) [] x4 x5 x6 x7 x8 (fun p hp => by
    obtain ⟨h1, h2⟩ := tab_keys T p hp
    exact ⟨by omega, fun o ho => by have := h2 o ho; omega⟩) (by show 0 + _ < _; omega)
  refine ⟨.val (.dT (encT (tabsM (fitB rs) (a + 1)))), y4, y5, y6, y7, y8, ?_⟩
  unfold mtO
  refine (sq_nx (ρ' := [.val (rowsD rs), .val (.dT (encT (tabsM (fitB rs) a))), .val (.int (a : Int)), .own (.dT (encT [])), x4, x5, x6, x7, x8, .no]) (ω' := ω) ?_).trans ?_
  · generalize rowsD rs = R at *
    generalize encT (tabsM (fitB rs) a) = EB at *
    show sSetO 3 [] (mC (.dT [])) n0 _ ω = .nx [.val R, .val (.dT EB), .val (.int (a : Int)), .own (.dT []), x4, x5, x6, x7, x8, .no] ω
    simp
  have hf : sForT 1 (gT [4, 5]) mtR n0 [.val (rowsD rs), .val (.dT (encT (tabsM (fitB rs) a))), .val (.int (a : Int)), .own (.dT (encT [])), x4, x5, x6, x7, x8, .no] ω = .nx [.val (rowsD rs), .val (.dT (encT (tabsM (fitB rs) a))), .val (.int (a : Int)), .own (.dT (encT (tabsM (fitB rs) (a + 1)))), y4, y5, y6, y7, y8, .no] ω := by
    show (if ω.length ≤ n0 then onlyNx n0 (mFor (gT [4, 5]) mtR (itemsD (encT (tabsM (fitB rs) a))) n0 [.val (rowsD rs), .val (.dT (encT (tabsM (fitB rs) a))), .val (.int (a : Int)), .own (.dT (encT [])), x4, x5, x6, x7, x8, .no] ω) else .stuck) = _
    rw [if_pos hω, items_encT, h]
    show (if ω.length ≤ n0 then RS.nx _ ω else .stuck) = _
    rw [if_pos hω]
    rfl
  refine (sq_nx hf).trans ?_
  generalize rowsD rs = R at *
  generalize encT (tabsM (fitB rs) (a + 1)) = EB2 at *
  generalize encT (tabsM (fitB rs) a) = EB at *
  simp [demote, dmS]
theorem foldmax_of {v : Nat} : ∀ {l : List Nat}, v ∈ l → (∀ w ∈ l, w ≤ v) → gMaxL (.lst (intsD l)) = .ok (.int (v : Int)) := fun {l} h1 h2 => by
  cases l with
  | nil => cases h1
  | cons a l =>
    unfold gMaxL
    show (match D.ints? (intsD (a :: l)) with
      | some (n :: ns) => Res.ok (D.int ((n :: ns).foldl (fun a b => if a < b then b else a) n))
      | _ => .stuck) = _
    rw [ints_intsD]
    rw [List.map_cons]
    dsimp only
    obtain ⟨q1, q2, q3⟩ := foldmax_le ((a : Int) :: l.map fun (i : Nat) => (i : Int)) (a : Int)
    have u1 : (v : Int) ≤ ((a : Int) :: l.map fun (i : Nat) => (i : Int)).foldl (fun a b => if a < b then b else a) (a : Int) := q2 _ (by
      rcases List.mem_cons.mp h1 with e | e
      · rw [e]; exact List.mem_cons_self
      · exact List.mem_cons_of_mem _ (List.mem_map.mpr ⟨v, e, rfl⟩))
    have u2 : ((a : Int) :: l.map fun (i : Nat) => (i : Int)).foldl (fun a b => if a < b then b else a) (a : Int) ≤ (v : Int) := by
      rcases q3 with e | e
      · rw [e]
        have := h2 a List.mem_cons_self
        omega
      · rcases List.mem_cons.mp e with e | e
        · rw [e]
          have := h2 a List.mem_cons_self
          omega
        · obtain ⟨w, hw, e⟩ := List.mem_map.mp e
          rw [← e]
          have := h2 w (List.mem_cons_of_mem _ hw)
          omega
    rw [Int.le_antisymm u2 u1]
theorem compL_vals {B : Tab} (hn : (B.map (·.1)).Nodup) {ρ : Env'} {x : Sl} (hρ : ∀ k, (ρ.set 4 (.val (.tup (intsD k))))[1]? = some (.val (.dT (encT B))) ∧ (ρ.set 4 (.val (.tup (intsD k))))[4]? = some (.val (.tup (intsD k)))) : ∀ (l : Tab), (∀ p ∈ l, p ∈ B) → compL 4 bTrue (m2 (mV 1) (mV 4) gIx) ω ρ (l.map fun p : List Nat × Nat => D.tup (intsD p.1)) = .ok (intsD (l.map (·.2)))
  | [], _ => rfl
  | p :: l, h => by
    have ih := compL_vals hn (x := x) hρ l (fun q hq => h q (List.mem_cons_of_mem _ hq))
    have hg := gIx_encT (tget_of hn (h p List.mem_cons_self))
    have e : m2 (mV 1) (mV 4) gIx (ρ.set 4 (.val (.tup (intsD p.1)))) ω = .ok (.int (p.2 : Int)) := by
      obtain ⟨h1, h4⟩ := hρ p.1
      show ((mV 1) (ρ.set 4 (.val (.tup (intsD p.1)))) ω).bind (fun x => ((mV 4) (ρ.set 4 (.val (.tup (intsD p.1)))) ω).bind fun y => gIx x y) = _
      unfold mV
      rw [h1, h4]
      exact hg
    rw [List.map_cons]
    conv => lhs; unfold compL
    show (match m2 (mV 1) (mV 4) gIx (ρ.set 4 (.val (.tup (intsD p.1)))) ω with
      | .ok y => (compL 4 bTrue (m2 (mV 1) (mV 4) gIx) ω ρ (l.map fun p : List Nat × Nat => D.tup (intsD p.1))).bind fun ys => .ok (y :: ys)
      | _ => .stuck) = _
    rw [e, ih]
    rfl
theorem most_eq (hk : ∀ r ∈ rs, r.1 = "necklace" ∨ r.1 = "armring") (hn : rs.length < 10) {v : Nat} (h1 : v ∈ (tabsM (fitB rs) rs.length).map (·.2)) (h2 : ∀ w ∈ (tabsM (fitB rs) rs.length).map (·.2), w ≤ v) (hω : ω.length ≤ n0) : fu__law_most n0 [rowsD rs] ω = .ok (.int (v : Int)) ω := by
  show toRR (m__law_most n0 [.val (rowsD rs), .no, .no, .no, .no, .no, .no, .no, .no, .no] ω) = _
  have hlen := rows_len (rs := rs)
  suffices h : m__law_most n0 [.val (rowsD rs), .no, .no, .no, .no, .no, .no, .no, .no, .no] ω = .rt (.int (v : Int)) ω by rw [h]; rfl
  unfold m__law_most
  refine (sq_nx (ρ' := [.val (rowsD rs), .val (.dT (encT (tabsM (fitB rs) 0))), .no, .no, .no, .no, .no, .no, .no, .no]) (ω' := ω) ?_).trans ?_
  · have e : encT (tabsM (fitB rs) 0) = [([], .int 0)] := rfl
    rw [e]
    generalize rowsD rs = R at *
    simp [D.flatKs, dem_nil]
  have loop : ∃ x2 x3 x4 x5 x6 x7 x8, sFor [] (iRng (m1 (mV 0) gLen)) (gN 2) mtO n0 [.val (rowsD rs), .val (.dT (encT (tabsM (fitB rs) 0))), .no, .no, .no, .no, .no, .no, .no, .no] ω = .nx [.val (rowsD rs), .val (.dT (encT (tabsM (fitB rs) rs.length))), x2, x3, x4, x5, x6, x7, x8, .no] ω := by
    obtain ⟨ρ', ω', e, x2, x3, x4, x5, x6, x7, x8, h, h'⟩ := sfor_all (n0 := n0) (i := 2) (b := mtO) (B := []) (ms := iRng (m1 (mV 0) gLen)) (xs := rangeD 0 rs.length) (ρ := [.val (rowsD rs), .val (.dT (encT (tabsM (fitB rs) 0))), .no, .no, .no, .no, .no, .no, .no, .no]) (ω := ω)
      (fun j ρ' ω' => ∃ x2 x3 x4 x5 x6 x7 x8, ρ' = [.val (rowsD rs), .val (.dT (encT (tabsM (fitB rs) j))), x2, x3, x4, x5, x6, x7, x8, .no] ∧ ω' = ω) (by
        have ha := asRng1_len (n := rs.length) (by omega)
        generalize encT (tabsM (fitB rs) 0) = EB at *
        generalize rowsD rs = R at *
        simp [-gLen, hlen, ha]) ⟨_, _, _, _, _, _, _, dem_nil _, rfl⟩ (fun j x ρ ω1 hx ⟨x2, x3, x4, x5, x6, x7, x8, h, h'⟩ => by
        subst h h'
        obtain ⟨hj, rfl⟩ := rng_at hx
        obtain ⟨y3, y4, y5, y6, y7, y8, hs⟩ := most_step (n0 := n0) hk hj hn hω x3 x4 x5 x6 x7 x8
        exact ⟨by show 2 < 10; decide, _, _, .inl hs, _, _, _, _, _, _, _, rfl, rfl⟩)
    rw [h, h', rangeD_len] at e
    exact ⟨x2, x3, x4, x5, x6, x7, x8, e⟩
  obtain ⟨x2, x3, x4, x5, x6, x7, x8, hl⟩ := loop
  refine (sq_nx hl).trans ?_
  obtain ⟨T, _⟩ := tabs_ok (gphB hk) rs.length
  have hlt := tabs_len hk (a := rs.length) (by omega)
  have hc := compL_vals (ω := ω) T.nd (x := x4) (ρ := [.val (rowsD rs), .val (.dT (encT (tabsM (fitB rs) rs.length))), x2, x3, x4, x5, x6, x7, x8, .no]) (fun k => ⟨rfl, rfl⟩) (tabsM (fitB rs) rs.length) (fun p hp => hp)
  have hkeys : ((encT (tabsM (fitB rs) rs.length)).map fun kv => D.tup (kv.1.map kD)) = (tabsM (fitB rs) rs.length).map fun p : List Nat × Nat => D.tup (intsD p.1) := by
    unfold encT
    rw [List.map_map]
    apply List.map_congr_left
    intro p _
    show D.tup ((keyT p.1).map kD) = _
    rw [keyT_kD]
  have hm := foldmax_of h1 h2
  have hct : mCompT 4 (mVal 1) bTrue (m2 (mV 1) (mV 4) gIx) [.val (rowsD rs), .val (.dT (encT (tabsM (fitB rs) rs.length))), x2, x3, x4, x5, x6, x7, x8, .no] ω = .ok (.lst (intsD ((tabsM (fitB rs) rs.length).map (·.2)))) := by
    show (if (encT (tabsM (fitB rs) rs.length)).length ≤ 1000 then (compL 4 bTrue (m2 (mV 1) (mV 4) gIx) ω (demote [] [.val (rowsD rs), .val (.dT (encT (tabsM (fitB rs) rs.length))), x2, x3, x4, x5, x6, x7, x8, .no]) ((encT (tabsM (fitB rs) rs.length)).map fun kv => D.tup (kv.1.map kD))).bind fun ys => .ok (D.lst ys) else .stuck) = _
    rw [if_pos (by rw [encT_len]; omega), dem_nil, hkeys, hc]
    rfl
  show sRet (m1 (mCompT 4 (mVal 1) bTrue (m2 (mV 1) (mV 4) gIx)) gMaxL) n0 [.val (rowsD rs), .val (.dT (encT (tabsM (fitB rs) rs.length))), x2, x3, x4, x5, x6, x7, x8, .no] ω = _
  unfold sRet m1
  rw [hct]
  show ofE (gMaxL (.lst (intsD ((tabsM (fitB rs) rs.length).map (·.2))))) ω _ = _
  rw [hm]
  rfl
end

theorem take_more {rs : Rw} {j : Nat} {r : Str × Int} (h : rs[j]? = some r) : rs.take j ++ [r] = rs.take (j + 1) := by
  obtain ⟨hj, e⟩ := List.getElem?_eq_some_iff.mp h
  rw [← e, List.take_append_getElem hj]
/-! the order -/
def ordN (s n : Nat) : List Nat := (List.range n).map fun i => (s + i) % n
theorem ord_all {s n y : Nat} (hy : y < n) : y ∈ ordN s n := by
  refine List.mem_map.mpr ⟨(y + (n - s % n)) % n, List.mem_range.mpr (Nat.mod_lt _ (by omega)), ?_⟩
  rw [Nat.add_mod_mod]
  have h1 := Nat.mod_add_div s n
  have h2 : s % n < n := Nat.mod_lt _ (by omega)
  have e : s + (y + (n - s % n)) = y + n * (s / n + 1) := by
    rw [Nat.mul_add, Nat.mul_one]
    omega
  rw [e, Nat.add_mul_mod_self_left, Nat.mod_eq_of_lt hy]
theorem ord_lt {s n y : Nat} (h : y ∈ ordN s n) : y < n := by
  obtain ⟨i, hi, e⟩ := List.mem_map.mp h
  have := List.mem_range.mp hi
  rw [← e]
  exact Nat.mod_lt _ (by omega)
theorem ord_eq {s j : Nat} {ω : Store} {ρ : Env'} (h3 : ρ[3]? = some (.val (.int (s : Int)))) (h4 : ρ[4]? = some (.val (.int (j : Int)))) (hl : 7 < ρ.length) :
    compL 7 bTrue (m2 (m2 (mV 3) (mV 7) gAdd) (m2 (mV 4) (mC (.int 1)) gAdd) gMod) ω ρ (intsD (List.range (j + 1))) = .ok (intsD (ordN s (j + 1))) := by
  have h := compL_gen (i := 7) (tt := bTrue) (me := m2 (m2 (mV 3) (mV 7) gAdd) (m2 (mV 4) (mC (.int 1)) gAdd) gMod) (ω := ω) (ρ := ρ) (p := fun _ => true) (g := fun x => .int (((s + x) % (j + 1) : Nat) : Int)) (l := List.range (j + 1)) (fun x hx => rfl) (fun x hx _ => by
    have e3 : (ρ.set 7 (.val (.int (x : Int))))[3]? = some (.val (.int (s : Int))) := by rw [List.getElem?_set_ne (by decide)]; exact h3
    have e4 : (ρ.set 7 (.val (.int (x : Int))))[4]? = some (.val (.int (j : Int))) := by rw [List.getElem?_set_ne (by decide)]; exact h4
    have e7 : (ρ.set 7 (.val (.int (x : Int))))[7]? = some (.val (.int (x : Int))) := List.getElem?_set_self hl
    have ec : (((s + x) % (j + 1) : Nat) : Int) = ((s : Int) + (x : Int)) % ((j : Int) + 1) := by
      rw [Int.natCast_emod, Int.natCast_add, Int.natCast_add]; rfl
    have e : ∀ i d, (ρ.set 7 (.val (.int (x : Int))))[i]? = some (.val d) → mV i (ρ.set 7 (.val (.int (x : Int)))) ω = .ok d := fun i d h => by
      unfold mV; rw [h]
    have a3 := e 3 _ e3
    have a4 := e 4 _ e4
    have a7 := e 7 _ e7
    generalize ρ.set 7 (.val (.int (x : Int))) = ρ' at *
    rw [ec]
    show ((((mV 3 ρ' ω).bind fun x => (mV 7 ρ' ω).bind fun y => gAdd x y).bind fun x => ((mV 4 ρ' ω).bind fun x => ((mC (.int 1)) ρ' ω).bind fun y => gAdd x y).bind fun y => gMod x y)) = _
    rw [a3, a7, a4]
    show (if 0 < (j : Int) + 1 then Res.ok (D.int (((s : Int) + (x : Int)) % ((j : Int) + 1))) else .stuck) = _
    rw [if_pos (by omega)])
  rw [h]
  have hf : (List.range (j + 1)).filter (fun _ => true) = List.range (j + 1) := List.filter_eq_self.mpr fun _ _ => rfl
  rw [hf]
  unfold ordN intsD
  rw [List.map_map]; rfl
theorem ints_rev {l : List Nat} : (intsD l).reverse = intsD l.reverse := by
  unfold intsD
  rw [List.map_reverse]
/-! the way through all -/
noncomputable abbrev gdyB : T := (sIf (b2 (mV 7) (mV 6) gNotIn) (sSet 6 ([] ++ ([6] ++ ([7] ++ []))) (mCall 3 fu__law_led (aCons (mSl (mV 2) oNone (oSome (m2 (mV 4) (mC (.int 1)) gAdd))) (aCons (mV 6) (aCons (mV 7) aNil))))) sNx)
theorem greedy_for {rs : Rw} {j : Nat} {ω : Store} {n0 : Nat} {S : D} {s : Int} {L : D} (hk : ∀ r ∈ rs.take (j + 1), r.1 = "necklace" ∨ r.1 = "armring") (hn : (rs.take (j + 1)).length ≤ 90) : ∀ (l : List Nat) (m : Kl) (x7 : Sl), (∀ y ∈ l, y < (rs.take (j + 1)).length) → (m.map (·.1)).Nodup → Mat (fitB (rs.take (j + 1))) (rs.take (j + 1)).length (getA m) →
    ∃ m' x7', mFor (gN 7) gdyB (intsD l) n0 [.val S, .val (.obj 0), .val (rowsD rs), .val (.int s), .val (.int (j : Int)), .val L, .val (.dK (encM m)), x7] ω = .nx [.val S, .val (.obj 0), .val (rowsD rs), .val (.int s), .val (.int (j : Int)), .val L, .val (.dK (encM m')), x7'] ω ∧
      (m'.map (·.1)).Nodup ∧ Mat (fitB (rs.take (j + 1))) (rs.take (j + 1)).length (getA m') ∧ (∀ x, getA m x ≠ none → getA m' x ≠ none) ∧ ∀ y ∈ l, Done (fitB (rs.take (j + 1))) (kdB (rs.take (j + 1))) (rs.take (j + 1)).length (getA m') y
  | [], m, x7, _, hd, M => ⟨m, x7, rfl, hd, M, fun x hx => hx, fun y hy => (nomatch hy)⟩
  | y :: l, m, x7, hl, hd, M => by
    have hy := hl y List.mem_cons_self
    have hl' : ∀ y ∈ l, y < (rs.take (j + 1)).length := fun z hz => hl z (List.mem_cons_of_mem _ hz)
    have cons := for_one (i := 7) (b := gdyB) (x := .int (y : Int)) (xs := intsD l) (ρ := [.val S, .val (.obj 0), .val (rowsD rs), .val (.int s), .val (.int (j : Int)), .val L, .val (.dK (encM m)), x7]) (ω := ω) (n0 := n0) (by show 7 < 8; decide)
    have e1 := gNotIn_enc (m := m) (x := y)
    have hsl := sl_rows_to (rs := rs) (p := j + 1)
    have hcast : ((j + 1 : Nat) : Int) = (j : Int) + 1 := by omega
    rw [hcast] at hsl
    cases z : getA m y with
    | some w =>
      rw [z] at e1
      obtain ⟨m', y7, h1, h2, h3, h4, h5⟩ := greedy_for (n0 := n0) hk hn l m (.val (.int (y : Int))) hl' hd M
      refine ⟨m', y7, (cons.trans ?_).trans h1, h2, h3, h4, fun q hq => ?_⟩
      · have st : gdyB n0 ([.val S, .val (.obj 0), .val (rowsD rs), .val (.int s), .val (.int (j : Int)), .val L, .val (.dK (encM m)), x7].set 7 (.val (.int (y : Int)))) ω = .nx [.val S, .val (.obj 0), .val (rowsD rs), .val (.int s), .val (.int (j : Int)), .val L, .val (.dK (encM m)), .val (.int (y : Int))] ω := by
          generalize encM m = EM at *
          generalize rowsD rs = R at *
          simp [e1]
        rw [st]
      · rcases List.mem_cons.mp hq with e | e
        · subst e
          exact .inl (h4 _ (by rw [z]; simp))
        · exact h5 q e
    | none =>
      rw [z] at e1
      obtain ⟨m1, g1, g2, g3, g4, g5⟩ := ledm_eq hk hn hy hd M z ω.length ω
      obtain ⟨m', y7, h1, h2, h3, h4, h5⟩ := greedy_for (n0 := n0) hk hn l m1 (.val (.int (y : Int))) hl' g2 g3
      refine ⟨m', y7, (cons.trans ?_).trans h1, h2, h3, fun q hq => h4 q (g4 q hq), fun q hq => ?_⟩
      · have st : gdyB n0 ([.val S, .val (.obj 0), .val (rowsD rs), .val (.int s), .val (.int (j : Int)), .val L, .val (.dK (encM m)), x7].set 7 (.val (.int (y : Int)))) ω = .nx [.val S, .val (.obj 0), .val (rowsD rs), .val (.int s), .val (.int (j : Int)), .val L, .val (.dK (encM m1)), .val (.int (y : Int))] ω := by
          generalize encM m = EM at *
          generalize encM m1 = EM1 at *
          generalize rowsD (rs.take (j + 1)) = R2 at *
          generalize rowsD rs = R at *
          simp [-gSl_lst, e1, hsl, g1, demote, dmS]
        rw [st]
      · rcases List.mem_cons.mp hq with e | e
        · subst e
          exact g5.more h4
        · exact h5 q e
theorem twice_pairs {rs : Rw} {m : Kl} (I : PInv rs m) : m.length = 2 * (pairL m).length := by
  have hnl : (pairL m).Nodup := (pairL_up I.nd).imp fun {a b} h => Nat.ne_of_lt h
  have hn := bk_nodup I.mat hnl (fun z hz => hz)
  have hp := (keys_perm hn I.nd (bk_get I)).length_eq
  rw [List.length_map, List.length_map, bk_len] at hp
  omega
theorem pairs_len {m : Kl} : gLen (pairsD m) = .ok (.int ((pairL m).length : Int)) := by
  show Res.ok (D.int (((pairL m).map (pairD m)).length : Int)) = _
  rw [List.length_map]
theorem enc_gLen {m : Kl} : gLen (.dK (encM m)) = .ok (.int (m.length : Int)) := by
  show Res.ok (D.int ((encM m).length : Int)) = _
  rw [enc_len]

theorem law_true (ns : List Int) (hl : ns.length ≤ 63) : ∃ ω, toRR (m_law 0 (.own (.lst (ns.map .int)) :: List.replicate 7 .no) []) = .ok (.bl true) ω := by
  unfold m_law
  refine sq_step (G := GT) (ρ' := [.own (.lst (ns.map .int)), .val (.obj 0), .no, .no, .no, .no, .no, .no]) (ω' := [pob [] []]) (make_eq (ω := []) (Nat.zero_le _) (by show 1 < 8; decide)) ?_
  obtain ⟨c0, hc0⟩ := cell_eq ns 0 (by omega) 1 [pob [] []]
  have hc0 : fu__law_cell 1 [.lst (ns.map .int), .int 0] [pob [] []] = .ok (.int c0) [pob [] []] := hc0
  obtain ⟨c1, hc1⟩ := cell_eq ns 1 (by omega) 1 [pob [] []]
  have hc1 : fu__law_cell 1 [.lst (ns.map .int), .int 1] [pob [] []] = .ok (.int c1) [pob [] []] := hc1
  obtain ⟨rs, hrow, hrl, hro⟩ := rows_eq (ns.drop 1) c0 (by rw [List.length_drop]; omega) 1 [pob [] []]
  have hn : rs.length ≤ 63 := by rw [hrl, List.length_drop]; omega
  have hsl := sl_ints_from (ns := ns) (p := 1)
  have hsl : gSl (.lst (ns.map .int)) (some 1) none = .ok (.lst ((ns.drop 1).map .int)) := hsl
  have hlen := rows_len (rs := rs)
  refine sq_step (G := GT) (ρ' := [.val (.lst (ns.map .int)), .val (.obj 0), .val (rowsD rs), .no, .no, .no, .no, .no]) (ω' := [pob [] []]) ?_ ?_
  · have hl1 : ([pob [] []] : Store).length = 1 := rfl
    generalize ([pob [] []] : Store) = ω1 at *
    have : D.free (rowsD rs) = false := rfl
    generalize rowsD rs = R at *
    generalize (ns.drop 1).map D.int = NS1 at *
    generalize ns.map D.int = NS at *
    simp [-gSl_lst, hl1, hsl, hc0, hrow, this, demote, dmS]
  generalize ns.map D.int = NS at *
  obtain ⟨s, hs⟩ := Int.eq_ofNat_of_zero_le (Int.emod_nonneg c1 (show (61 : Int) ≠ 0 by decide))
  refine sq_step (G := GT) (ρ' := [.val (.lst NS), .val (.obj 0), .val (rowsD rs), .val (.int (s : Int)), .no, .no, .no, .no]) (ω' := [pob [] []]) ?_ ?_
  · have hl1 : ([pob [] []] : Store).length = 1 := rfl
    have hm : gMod (.int c1) (.int 61) = .ok (.int (s : Int)) := by rw [← hs]; simp [gMod]
    generalize ([pob [] []] : Store) = ω1 at *
    generalize rowsD rs = R at *
    simp [-gMod, hl1, hc1, hm]
  refine sq_sfor (G := GT) (fun j ρ ω => ∃ m x4 x5 x6 x7, ρ = [.val (.lst NS), .val (.obj 0), .val (rowsD rs), .val (.int (s : Int)), x4, x5, x6, x7] ∧ ω = [pob (rs.take j) m] ∧ PInv (rs.take j) m) (xs := rangeD 0 rs.length) ?_ ?_ ?_ ?_
  · have e := asRng1_len (n := rs.length) (by omega)
    generalize rowsD rs = R at *
    simp [-gLen, hlen, e]
  · exact ⟨[], .no, .no, .no, .no, by rw [dem_nil], rfl, pinv0⟩
  · rintro j x ρ ω hx ⟨m, x4, x5, x6, x7, rfl, rfl, I⟩
    obtain ⟨hj, rfl⟩ := rng_at hx
    refine ⟨by show 4 < 8; decide, ?_⟩
    have er := List.getElem?_eq_getElem hj
    generalize rs[j] = r at er
    have hr := hro r (List.mem_iff_getElem?.mpr ⟨j, er⟩)
    have h0 : ([pob (rs.take j) m] : Store)[0]? = some (pob (rs.take j) m) := rfl
    have htl : (rs.take j).length = j := by rw [List.length_take]; omega
    obtain ⟨m', ha, I', _⟩ := add_eq I h0 (Nat.le_refl 0) (by omega) hr.1 hr.2
    have hv := recv_pob (mt := "add") h0 (by rfl)
    rw [show (rs.take j ++ [(r.1, r.2)] : Rw) = rs.take (j + 1) from take_more er] at ha I'
    have ha : fu_Pairing_add 0 [.obj 0, .str r.1, .int r.2] [pob (rs.take j) m] = .ok (.int ((rs.take j).length : Int)) [pob (rs.take (j + 1)) m'] := ha
    have g1 := rows_at er
    have i0 : gIx (rowD r) (.int 0) = .ok (.str r.1) := gIx_tup (by decide) rfl
    have i1 : gIx (rowD r) (.int 1) = .ok (.int r.2) := gIx_tup (by decide) rfl
    have htl2 : (rs.take (j + 1)).length = j + 1 := by rw [List.length_take]; omega
    have hml := mat_len I'.nd I'.mat
    rw [htl2] at hml
    have h0' : ([pob (rs.take (j + 1)) m'] : Store)[0]? = some (pob (rs.take (j + 1)) m') := rfl
    have hm7 : gMod (.int (j : Int)) (.int 7) = .ok (.int ((j : Int) % 7)) := by simp [gMod]
    have hl1 : ([pob (rs.take (j + 1)) m'] : Store).length = 1 := rfl
    have hcast : ((j + 1 : Nat) : Int) = (j : Int) + 1 := by omega
    by_cases q : 12 < (j : Int) ∧ 0 < (j : Int) % 7 ∧ (j : Int) < (rs.length : Int) - 1
    · refine ⟨[.val (.lst NS), .val (.obj 0), .val (rowsD rs), .val (.int (s : Int)), .val (.int (j : Int)), x5, x6, x7], _, .inr ?_, m', .val (.int (j : Int)), x5, x6, x7, rfl, rfl, I'⟩
      generalize ([pob (rs.take (j + 1)) m'] : Store) = ω2 at *
      generalize ([pob (rs.take j) m] : Store) = ω1 at *
      generalize rowsD rs = R at *
      refine (sq_nx (ρ' := [.val (.lst NS), .val (.obj 0), .val R, .val (.int (s : Int)), .val (.int (j : Int)), x5, x6, x7]) (ω' := ω2) ?_).trans ?_
      · simp [g1, i0, i1, hv, ha]
      · simp [-gLen, -gMod, hm7, hlen, q]
    · -- the law's own way
      have kinds := I'.kinds
      have g := gphB kinds
      have hOL : ∃ OL : List Nat, OL = (if (s : Int) % 2 = 1 then (ordN s (j + 1)).reverse else ordN s (j + 1)) := ⟨_, rfl⟩
      obtain ⟨OL, hOL⟩ := hOL
      have hall : ∀ y, y < (rs.take (j + 1)).length → y ∈ OL := fun y hy => by
        rw [htl2] at hy
        rw [hOL]
        split
        · exact List.mem_reverse.mpr (ord_all hy)
        · exact ord_all hy
      have hlt : ∀ y ∈ OL, y < (rs.take (j + 1)).length := fun y hy => by
        rw [htl2]
        rw [hOL] at hy
        split at hy
        · exact ord_lt (List.mem_reverse.mp hy)
        · exact ord_lt hy
      obtain ⟨mm, y7, w1, w2, w3, w4, w5⟩ := greedy_for (rs := rs) (j := j) (ω := [pob (rs.take (j + 1)) m']) (n0 := 0) (S := .lst NS) (s := (s : Int)) (L := .lst (intsD OL)) kinds (by omega) OL [] x7 hlt List.nodup_nil ((mat_start _).wide (Nat.zero_le _))
      have X2 : Max1 (fitB (rs.take (j + 1))) (kdB (rs.take (j + 1))) (rs.take (j + 1)).length (getA mm) := max1_of fun y hy => w5 y (hall y hy)
      have hf := free_same g I'.mat I'.gr.max1 w3 X2
      have l1 := len_free I'.nd I'.mat (fun x => getA_keys)
      have l2 := len_free w2 w3 (fun x => getA_keys)
      have htw := twice_pairs I'
      have hm2 : mm.length = 2 * (pairL m').length := by omega
      have e1 := pairs_eq h0' (by omega) 1
      have v1 := recv_pob (mt := "pairs") h0' (by rfl)
      have s1 := same_refl 2 (.int ((mm.length : Nat) : Int)) 1 [pob (rs.take (j + 1)) m'] rfl
      have em : gMul (.int 2) (.int ((pairL m').length : Int)) = .ok (.int (mm.length : Int)) := by
        rw [hm2]
        rw [show ((2 * (pairL m').length : Nat) : Int) = 2 * ((pairL m').length : Int) by omega]
        simp
      have pl := pairs_len (m := m')
      have el := enc_gLen (m := mm)
      have hsl2 := sl_rows_to (rs := rs) (p := j + 1)
      rw [hcast] at hsl2
      have hmost : j < 9 → fu__law_most 1 [rowsD (rs.take (j + 1))] [pob (rs.take (j + 1)) m'] = .ok (.int ((pairL m').length : Int)) [pob (rs.take (j + 1)) m'] := fun hj9 => by
        obtain ⟨t1, t2⟩ := tab_most g I'.mat I'.gr.max1 (v := (pairL m').length) (by omega)
        exact most_eq kinds (by omega) t1 t2 (Nat.le_refl _)
      refine ⟨[.val (.lst NS), .val (.obj 0), .val (rowsD rs), .val (.int (s : Int)), .val (.int (j : Int)), .val (.lst (intsD OL)), .val (.dK (encM mm)), y7], _, .inl ?_, m', _, _, _, _, rfl, rfl, I'⟩
      refine (sq_nx (ρ' := [.val (.lst NS), .val (.obj 0), .val (rowsD rs), .val (.int (s : Int)), .val (.int (j : Int)), x5, x6, x7]) (ω' := [pob (rs.take (j + 1)) m']) ?_).trans ?_
      · generalize ([pob (rs.take (j + 1)) m'] : Store) = ω2 at *
        generalize ([pob (rs.take j) m] : Store) = ω1 at *
        generalize rowsD rs = R at *
        simp [g1, i0, i1, hv, ha]
      generalize hω2 : ([pob (rs.take (j + 1)) m'] : Store) = ω2 at *
      refine (sq_nx (ρ' := [.val (.lst NS), .val (.obj 0), .val (rowsD rs), .val (.int (s : Int)), .val (.int (j : Int)), x5, x6, x7]) (ω' := ω2) ?_).trans ?_
      · generalize rowsD rs = R at *
        by_cases a : 12 < (j : Int)
        · by_cases b : 0 < (j : Int) % 7
          · have c : ¬ (j : Int) < (rs.length : Int) - 1 := fun c => q ⟨a, b, c⟩
            simp [-gLen, -gMod, hm7, hlen, a, b, c]
          · simp [-gLen, -gMod, hm7, hlen, a, b]
        · simp [-gLen, -gMod, hm7, hlen, a]
      refine (sq_nx (ρ' := [.val (.lst NS), .val (.obj 0), .val (rowsD rs), .val (.int (s : Int)), .val (.int (j : Int)), .own (.lst (intsD (ordN s (j + 1)))), x6, x7]) (ω' := ω2) ?_).trans ?_
      · have ho := ord_eq (s := s) (j := j) (ω := ω2) (ρ := [.val (.lst NS), .val (.obj 0), .val (rowsD rs), .val (.int (s : Int)), .val (.int (j : Int)), x5, x6, x7]) rfl rfl (by show 7 < 8; decide)
        have hr1 := asRng1_len (n := j + 1) (by omega)
        rw [range_ints, hcast] at hr1
        have hil : (intsD (List.range (j + 1))).length ≤ 1000 := by rw [intsD_len, List.length_range]; omega
        have hfr : D.frees (intsD (ordN s (j + 1))) = true := intsD_free
        generalize intsD (ordN s (j + 1)) = OD at *
        generalize rowsD rs = R at *
        generalize intsD (List.range (j + 1)) = RG at *
        have hd : demote ([] ++ []) [.val (.lst NS), .val (.obj 0), .val R, .val (.int (s : Int)), .val (.int (j : Int)), x5, x6, x7] = [.val (.lst NS), .val (.obj 0), .val R, .val (.int (s : Int)), .val (.int (j : Int)), x5, x6, x7] := dem_nil _
        have hmc : mComp 7 ([] ++ []) (iRng (m2 (mV 4) (mC (.int 1)) gAdd)) bTrue (m2 (m2 (mV 3) (mV 7) gAdd) (m2 (mV 4) (mC (.int 1)) gAdd) gMod) [.val (.lst NS), .val (.obj 0), .val R, .val (.int (s : Int)), .val (.int (j : Int)), x5, x6, x7] ω2 = .ok (.lst OD) := by
          show ((asRng1 (.int ((j : Int) + 1))).bind fun xs => if xs.length ≤ 1000 then (compL 7 bTrue (m2 (m2 (mV 3) (mV 7) gAdd) (m2 (mV 4) (mC (.int 1)) gAdd) gMod) ω2 (demote ([] ++ []) [.val (.lst NS), .val (.obj 0), .val R, .val (.int (s : Int)), .val (.int (j : Int)), x5, x6, x7]) xs).bind fun ys => .ok (D.lst ys) else .stuck) = _
          rw [hr1]
          show (if RG.length ≤ 1000 then _ else _) = _
          rw [if_pos hil, hd, ho]
          rfl
        unfold sSetO
        rw [hmc]
        have hin : D.inFree (.lst OD) = true := hfr
        dsimp only [ofE]
        unfold demO
        rw [if_pos hin]
        rfl
      have hord : ∃ s5, (s5 = Sl.own (.lst (intsD OL)) ∨ s5 = Sl.val (.lst (intsD OL))) ∧ sIf (b2 (m2 (mV 3) (mC (.int 2)) gMod) (mC (.int 1)) gEq) (sSet 5 [] (m1 (mV 5) gRev)) sNx 0 [.val (.lst NS), .val (.obj 0), .val (rowsD rs), .val (.int (s : Int)), .val (.int (j : Int)), .own (.lst (intsD (ordN s (j + 1)))), x6, x7] ω2 = .nx [.val (.lst NS), .val (.obj 0), .val (rowsD rs), .val (.int (s : Int)), .val (.int (j : Int)), s5, x6, x7] ω2 := by
        have hm2' : gMod (.int (s : Int)) (.int 2) = .ok (.int ((s : Int) % 2)) := by simp [gMod]
        by_cases c : (s : Int) % 2 = 1
        · rw [if_pos c] at hOL
          refine ⟨.val (.lst (intsD OL)), .inr rfl, ?_⟩
          rw [hOL, ← ints_rev]
          generalize intsD (ordN s (j + 1)) = OD at *
          generalize rowsD rs = R at *
          simp [-gMod, hm2', c, dem_nil]
        · rw [if_neg c] at hOL
          refine ⟨.own (.lst (intsD OL)), .inl rfl, ?_⟩
          rw [hOL]
          generalize intsD (ordN s (j + 1)) = OD at *
          generalize rowsD rs = R at *
          simp [-gMod, hm2', c]
      obtain ⟨s5, hs5, ho⟩ := hord
      refine (sq_nx ho).trans ?_
      refine (sq_nx (ρ' := [.val (.lst NS), .val (.obj 0), .val (rowsD rs), .val (.int (s : Int)), .val (.int (j : Int)), s5, .val (.dK (encM [])), x7]) (ω' := ω2) ?_).trans ?_
      · generalize rowsD rs = R at *
        show sSet 6 [] (mC (.dK [])) 0 _ ω2 = .nx [.val (.lst NS), .val (.obj 0), .val R, .val (.int (s : Int)), .val (.int (j : Int)), s5, .val (.dK []), x7] ω2
        simp [dem_nil]
      have hfor : sFor [5] (iLst (mV 5)) (gN 7) gdyB 0 [.val (.lst NS), .val (.obj 0), .val (rowsD rs), .val (.int (s : Int)), .val (.int (j : Int)), s5, .val (.dK (encM [])), x7] ω2 = .nx [.val (.lst NS), .val (.obj 0), .val (rowsD rs), .val (.int (s : Int)), .val (.int (j : Int)), .val (.lst (intsD OL)), .val (.dK (encM mm)), y7] ω2 := by
        have e1 : iLst (mV 5) [.val (.lst NS), .val (.obj 0), .val (rowsD rs), .val (.int (s : Int)), .val (.int (j : Int)), s5, .val (.dK (encM [])), x7] ω2 = .ok (intsD OL) := by
          rcases hs5 with h | h <;> rw [h] <;> rfl
        have e2 : demote [5] [.val (.lst NS), .val (.obj 0), .val (rowsD rs), .val (.int (s : Int)), .val (.int (j : Int)), s5, .val (.dK (encM [])), x7] = [.val (.lst NS), .val (.obj 0), .val (rowsD rs), .val (.int (s : Int)), .val (.int (j : Int)), .val (.lst (intsD OL)), .val (.dK (encM [])), x7] := by
          rcases hs5 with h | h <;> rw [h] <;> simp [demote, dmS]
        unfold sFor
        rw [e1]
        dsimp only
        rw [e2]
        exact w1
      refine (sq_nx hfor).trans ?_
      have hl1' : ω2.length = 1 := hl1
      refine (sq_nx (ρ' := [.val (.lst NS), .val (.obj 0), .val (rowsD rs), .val (.int (s : Int)), .val (.int (j : Int)), .val (.lst (intsD OL)), .val (.dK (encM mm)), y7]) (ω' := ω2) ?_).trans ?_
      · generalize rowsD rs = R at *
        generalize pairsD m' = PD at *
        generalize encM mm = EM at *
        generalize intsD OL = OD at *
        simp [-gLen, -gMul, hl1', e1, v1, pl, em, el, s1]
      · by_cases c : j < 9
        · have hmo := hmost c
          have c' : (j : Int) < 9 := by omega
          generalize rowsD (rs.take (j + 1)) = R2 at *
          generalize rowsD rs = R at *
          generalize pairsD m' = PD at *
          generalize encM mm = EM at *
          generalize intsD OL = OD at *
          simp [-gLen, -gSl_lst, hl1', e1, v1, pl, hsl2, hmo, c']
        · have c' : ¬ (j : Int) < 9 := by omega
          generalize rowsD rs = R at *
          generalize encM mm = EM at *
          generalize intsD OL = OD at *
          simp [c']
  · rintro ρ ω ⟨m, x4, x5, x6, x7, rfl, rfl, I⟩
    rw [rangeD_len, List.take_length] at I ⊢
    have hml := mat_len I.nd I.mat
    have h0 : ([pob rs m] : Store)[0]? = some (pob rs m) := rfl
    have e1 := settled_eq (k := 0) (ω := [pob rs m]) (rs := rs) (m := m) h0 (by omega) 1
    have e2 := unsettled_eq (k := 0) (ω := [pob rs m]) (rs := rs) (m := m) h0 (by omega) 1
    have v1 := recv_pob (mt := "settled") h0 (by rfl)
    have v2 := recv_pob (mt := "unsettled") h0 (by rfl)
    have s1 := same_refl 2 (.int (rs.length : Int)) 1 [pob rs m] rfl
    have hl1 : ([pob rs m] : Store).length = 1 := rfl
    have l1 := len_free I.nd I.mat (fun x => getA_keys)
    have g1 : gLen (srtN (m.map (·.1))) = .ok (.int (m.length : Int)) := by
      rw [srtN_nat]
      show Res.ok (D.int ((intsD (srtNat (m.map (·.1)))).length : Int)) = _
      rw [intsD_len, srtNat_len, List.length_map]
    have g2 : gLen (.lst (intsD (openB rs m))) = .ok (.int ((freeA rs.length (getA m)).length : Int)) := by
      show Res.ok (D.int ((intsD (openB rs m)).length : Int)) = _
      rw [intsD_len]; rfl
    have ga : gAdd (.int (m.length : Int)) (.int ((freeA rs.length (getA m)).length : Int)) = .ok (.int (rs.length : Int)) := by
      show Res.ok (D.int ((m.length : Int) + ((freeA rs.length (getA m)).length : Int))) = _
      rw [show (m.length : Int) + ((freeA rs.length (getA m)).length : Int) = (rs.length : Int) by omega]
    refine ⟨[pob rs m], ?_⟩
    generalize D.lst (intsD (openB rs m)) = OB at *
    generalize srtN (m.map (·.1)) = SN at *
    generalize ([pob rs m] : Store) = ω1 at *
    generalize rowsD rs = R at *
    simp [-gLen, -gAdd_int, hl1, e1, e2, v1, v2, g1, g2, ga, hlen, s1]

set_option maxHeartbeats 0
abbrev i_RoundError : Stmt := inClass (top 2) 0
theorem si_RoundError : FnScope ["self", "word"] ["self", "word"] (defScope i_RoundError) := ⟨rfl, rfl, rfl, by decide +kernel, rfl, by decide +kernel, by decide +kernel⟩
abbrev i_BadKind : Stmt := inClass (top 3) 0
theorem si_BadKind : FnScope ["self"] ["self"] (defScope i_BadKind) := ⟨rfl, rfl, rfl, by decide +kernel, rfl, by decide +kernel, by decide +kernel⟩
theorem xc_BadKind {P : Program} {w : World} {K : PySem.W.Frag} {mg : Str → Option Value} {base : Heap} {f fR C CR : Addr} {fd fdR : FuncData} (F : FunD K "__init__" "BadKind.__init__" (defArgs i_BadKind) (defBody i_BadKind) (defScope i_BadKind) [] [] f fd) (e : EC K mg "BadKind" C f) (FR : FnOk P w K mg base (L2.CX P w) 1 fR fdR ["self", "word"] (spR K)) (bR : Binds K fdR ["self", "word"] []) (mR : mg "RoundError" = some (.ref CR)) (cf : CF K CR "__init__" fR) (kp : PySem.W.keepIn K (.ref fR) = true) : Xc P w K mg base "BadKind" "bad kind" :=
  ⟨C, f, fd, e, FunD.bindsN (ps := ["self"]) F fun _ _ _ _ _ _ us hl => match us, hl with | [_], _ => rfl, okC F si_BadKind (fun cdv A outer s H E hr => pss_one (ps_expr (pe_clsfun rfl mR cf kp FR hr bR .nil passL (pa_cons (pv 0) (pa_cons pe_str pa_nil)))))⟩
abbrev i_BadRank : Stmt := inClass (top 4) 0
theorem si_BadRank : FnScope ["self"] ["self"] (defScope i_BadRank) := ⟨rfl, rfl, rfl, by decide +kernel, rfl, by decide +kernel, by decide +kernel⟩
theorem xc_BadRank {P : Program} {w : World} {K : PySem.W.Frag} {mg : Str → Option Value} {base : Heap} {f fR C CR : Addr} {fd fdR : FuncData} (F : FunD K "__init__" "BadRank.__init__" (defArgs i_BadRank) (defBody i_BadRank) (defScope i_BadRank) [] [] f fd) (e : EC K mg "BadRank" C f) (FR : FnOk P w K mg base (L2.CX P w) 1 fR fdR ["self", "word"] (spR K)) (bR : Binds K fdR ["self", "word"] []) (mR : mg "RoundError" = some (.ref CR)) (cf : CF K CR "__init__" fR) (kp : PySem.W.keepIn K (.ref fR) = true) : Xc P w K mg base "BadRank" "bad rank" :=
  ⟨C, f, fd, e, FunD.bindsN (ps := ["self"]) F fun _ _ _ _ _ _ us hl => match us, hl with | [_], _ => rfl, okC F si_BadRank (fun cdv A outer s H E hr => pss_one (ps_expr (pe_clsfun rfl mR cf kp FR hr bR .nil passL (pa_cons (pv 0) (pa_cons pe_str pa_nil)))))⟩
abbrev i_NoGift : Stmt := inClass (top 5) 0
theorem si_NoGift : FnScope ["self"] ["self"] (defScope i_NoGift) := ⟨rfl, rfl, rfl, by decide +kernel, rfl, by decide +kernel, by decide +kernel⟩
theorem xc_NoGift {P : Program} {w : World} {K : PySem.W.Frag} {mg : Str → Option Value} {base : Heap} {f fR C CR : Addr} {fd fdR : FuncData} (F : FunD K "__init__" "NoGift.__init__" (defArgs i_NoGift) (defBody i_NoGift) (defScope i_NoGift) [] [] f fd) (e : EC K mg "NoGift" C f) (FR : FnOk P w K mg base (L2.CX P w) 1 fR fdR ["self", "word"] (spR K)) (bR : Binds K fdR ["self", "word"] []) (mR : mg "RoundError" = some (.ref CR)) (cf : CF K CR "__init__" fR) (kp : PySem.W.keepIn K (.ref fR) = true) : Xc P w K mg base "NoGift" "no gift" :=
  ⟨C, f, fd, e, FunD.bindsN (ps := ["self"]) F fun _ _ _ _ _ _ us hl => match us, hl with | [_], _ => rfl, okC F si_NoGift (fun cdv A outer s H E hr => pss_one (ps_expr (pe_clsfun rfl mR cf kp FR hr bR .nil passL (pa_cons (pv 0) (pa_cons pe_str pa_nil)))))⟩
def D_i_RoundError : He.DefD := ⟨("RoundError", some "__init__"), "__init__", "RoundError.__init__", defArgs i_RoundError, defBody i_RoundError, defScope i_RoundError, [], []⟩
def D_i_BadKind : He.DefD := ⟨("BadKind", some "__init__"), "__init__", "BadKind.__init__", defArgs i_BadKind, defBody i_BadKind, defScope i_BadKind, [], []⟩
def D_i_BadRank : He.DefD := ⟨("BadRank", some "__init__"), "__init__", "BadRank.__init__", defArgs i_BadRank, defBody i_BadRank, defScope i_BadRank, [], []⟩
def D_i_NoGift : He.DefD := ⟨("NoGift", some "__init__"), "__init__", "NoGift.__init__", defArgs i_NoGift, defBody i_NoGift, defScope i_NoGift, [], []⟩
def D__law_cell : He.DefD := ⟨("_law_cell", none), "_law_cell", "_law_cell", defArgs s__law_cell, defBody s__law_cell, defScope s__law_cell, [], []⟩
def D__law_draws : He.DefD := ⟨("_law_draws", none), "_law_draws", "_law_draws", defArgs s__law_draws, defBody s__law_draws, defScope s__law_draws, [], []⟩
def D__law_same : He.DefD := ⟨("_law_same", none), "_law_same", "_law_same", defArgs s__law_same, defBody s__law_same, defScope s__law_same, [], []⟩
def D__law_rows : He.DefD := ⟨("_law_rows", none), "_law_rows", "_law_rows", defArgs s__law_rows, defBody s__law_rows, defScope s__law_rows, [], []⟩
def D__law_fits : He.DefD := ⟨("_law_fits", none), "_law_fits", "_law_fits", defArgs s__law_fits, defBody s__law_fits, defScope s__law_fits, [], []⟩
def D__law_turned : He.DefD := ⟨("_law_turned", none), "_law_turned", "_law_turned", defArgs s__law_turned, defBody s__law_turned, defScope s__law_turned, [], []⟩
def D__law_led : He.DefD := ⟨("_law_led", none), "_law_led", "_law_led", defArgs s__law_led, defBody s__law_led, defScope s__law_led, [], []⟩
def D__law_most : He.DefD := ⟨("_law_most", none), "_law_most", "_law_most", defArgs s__law_most, defBody s__law_most, defScope s__law_most, [], []⟩
def D_Pairing_unsettled : He.DefD := ⟨("Pairing", some "unsettled"), "unsettled", "Pairing.unsettled", defArgs s_Pairing_unsettled, defBody s_Pairing_unsettled, defScope s_Pairing_unsettled, [], []⟩
def D_Pairing_pairs : He.DefD := ⟨("Pairing", some "pairs"), "pairs", "Pairing.pairs", defArgs s_Pairing_pairs, defBody s_Pairing_pairs, defScope s_Pairing_pairs, [], []⟩
def D_Pairing_settled : He.DefD := ⟨("Pairing", some "settled"), "settled", "Pairing.settled", defArgs s_Pairing_settled, defBody s_Pairing_settled, defScope s_Pairing_settled, [], []⟩
def D_Pairing_look : He.DefD := ⟨("Pairing", some "look"), "look", "Pairing.look", defArgs s_Pairing_look, defBody s_Pairing_look, defScope s_Pairing_look, [], []⟩
def D_Pairing_fits : He.DefD := ⟨("Pairing", some "fits"), "fits", "Pairing.fits", defArgs s_Pairing_fits, defBody s_Pairing_fits, defScope s_Pairing_fits, [], []⟩
def D_Pairing_near : He.DefD := ⟨("Pairing", some "near"), "near", "Pairing.near", defArgs s_Pairing_near, defBody s_Pairing_near, defScope s_Pairing_near, [], []⟩
def D_Pairing_spread : He.DefD := ⟨("Pairing", some "spread"), "spread", "Pairing.spread", defArgs s_Pairing_spread, defBody s_Pairing_spread, defScope s_Pairing_spread, [], []⟩
def D_Pairing_grow : He.DefD := ⟨("Pairing", some "grow"), "grow", "Pairing.grow", defArgs s_Pairing_grow, defBody s_Pairing_grow, defScope s_Pairing_grow, [], []⟩
def D_Pairing_add : He.DefD := ⟨("Pairing", some "add"), "add", "Pairing.add", defArgs s_Pairing_add, defBody s_Pairing_add, defScope s_Pairing_add, [], []⟩
def D_Pairing___init__ : He.DefD := ⟨("Pairing", some "__init__"), "__init__", "Pairing.__init__", defArgs s_Pairing___init__, defBody s_Pairing___init__, defScope s_Pairing___init__, [], []⟩
def D_law : He.DefD := ⟨("law", none), "law", "law", defArgs s_law, defBody s_law, defScope s_law, [], []⟩
def fn : List He.DefD := [D_i_RoundError, D_i_BadKind, D_i_BadRank, D_i_NoGift, D__law_cell, D__law_draws, D__law_same, D__law_rows, D__law_fits, D__law_turned, D__law_led, D__law_most, D_Pairing_unsettled, D_Pairing_pairs, D_Pairing_settled, D_Pairing_look, D_Pairing_fits, D_Pairing_near, D_Pairing_spread, D_Pairing_grow, D_Pairing_add, D_Pairing___init__, D_law]
def fa : List He.Fa := [.glo "_law_cell", .glo "_law_draws", .glo "_law_same", .glo "_law_rows", .glo "_law_fits", .glo "_law_turned", .glo "_law_led", .glo "_law_most", .glo "law", .glo "Pairing", .cls "Pairing", .meth "Pairing" "unsettled", .meth "Pairing" "pairs", .meth "Pairing" "settled", .meth "Pairing" "look", .meth "Pairing" "fits", .meth "Pairing" "near", .meth "Pairing" "spread", .meth "Pairing" "grow", .meth "Pairing" "add", .mkr "Pairing", .noat "Pairing" "mates", .noat "Pairing" "rows", .glo "RoundError", .glo "BadKind", .glo "BadRank", .glo "NoGift", .free "abs", .free "all", .free "bool", .free "dict", .free "int", .free "isinstance", .free "len", .free "list", .free "max", .free "min", .free "range", .free "sorted", .free "str", .free "tuple", .glo "KINDS"]
def tabs : List He.Tab := []
def exL (K : PySem.W.Frag) : List Bool := [(cfB K "RoundError" "__init__"), (excs.all fun c => (ecL K c).all id), (ctB K "KINDS" ["necklace", "armring"])]
def ex (K : PySem.W.Frag) : Bool := (exL K).all id
abbrev R : PySem.W.OpenRow := PySem.W.OpenLaw.row PySem.Challenge.rw_shellround_k07_whole_as_many_pairs_as_ca
abbrev hk : PySem.W.Hook := hookZ 6 fa fn tabs ex
def ob (s : PySem.W.SharedT) : AlZ := obsZ 6 fa fn tabs ex (HandSHeadRun.getT s)
theorem ob_eq (s : PySem.W.SharedT) : ob s = hk.obs s.abs := obsZ_eq (HandSHeadRun.getT_eq s)
def loose0 : List Str := ["_wall", "__name__", "RoundError", "BadKind", "BadRank", "NoGift", "KINDS", "Pairing", "_law_cell", "_law_draws", "_law_same", "_law_rows", "_law_fits", "_law_turned", "_law_led", "_law_most"]
def loose : List Str := loose0
theorem run (w : World) : HandSHeadRun.RunEq R (PySem.W.view R.prog [18]) hk ob 4000 loose w := by
  intro os
  kernel_rfl
theorem facts {P : Program} {w : World} {K : PySem.W.Frag} {h : Heap} {mg : Str → Option Value} {f : Addr} (X : K.In h) (G : h.Ns mainGlobals mg) (hfa : mg ("law" : Str) = some (.ref f)) (c : SaysZ fa fn tabs ex w K) :
    ∃ fd : FuncData, (∀ (s : Shared) (v : Value), BindsTo s fd ⟨[v], []⟩ [("_law_script", v)]) ∧ ∀ base : Heap, K.In base → base.Ns mainGlobals mg → FnOk P w K mg base L2.CX0 10 f fd ["_law_script"] (spLaw K) := by
  have cd := c.t.d
  obtain ⟨fd_i_RoundError, F_i_RoundError⟩ := cd.def_ 0 (d := D_i_RoundError) rfl
  obtain ⟨fd_i_BadKind, F_i_BadKind⟩ := cd.def_ 1 (d := D_i_BadKind) rfl
  obtain ⟨fd_i_BadRank, F_i_BadRank⟩ := cd.def_ 2 (d := D_i_BadRank) rfl
  obtain ⟨fd_i_NoGift, F_i_NoGift⟩ := cd.def_ 3 (d := D_i_NoGift) rfl
  obtain ⟨fd__law_cell, F__law_cell⟩ := cd.def_ 4 (d := D__law_cell) rfl
  obtain ⟨fd__law_draws, F__law_draws⟩ := cd.def_ 5 (d := D__law_draws) rfl
  obtain ⟨fd__law_same, F__law_same⟩ := cd.def_ 6 (d := D__law_same) rfl
  obtain ⟨fd__law_rows, F__law_rows⟩ := cd.def_ 7 (d := D__law_rows) rfl
  obtain ⟨fd__law_fits, F__law_fits⟩ := cd.def_ 8 (d := D__law_fits) rfl
  obtain ⟨fd__law_turned, F__law_turned⟩ := cd.def_ 9 (d := D__law_turned) rfl
  obtain ⟨fd__law_led, F__law_led⟩ := cd.def_ 10 (d := D__law_led) rfl
  obtain ⟨fd__law_most, F__law_most⟩ := cd.def_ 11 (d := D__law_most) rfl
  obtain ⟨fd_Pairing_unsettled, F_Pairing_unsettled⟩ := cd.def_ 12 (d := D_Pairing_unsettled) rfl
  obtain ⟨fd_Pairing_pairs, F_Pairing_pairs⟩ := cd.def_ 13 (d := D_Pairing_pairs) rfl
  obtain ⟨fd_Pairing_settled, F_Pairing_settled⟩ := cd.def_ 14 (d := D_Pairing_settled) rfl
  obtain ⟨fd_Pairing_look, F_Pairing_look⟩ := cd.def_ 15 (d := D_Pairing_look) rfl
  obtain ⟨fd_Pairing_fits, F_Pairing_fits⟩ := cd.def_ 16 (d := D_Pairing_fits) rfl
  obtain ⟨fd_Pairing_near, F_Pairing_near⟩ := cd.def_ 17 (d := D_Pairing_near) rfl
  obtain ⟨fd_Pairing_spread, F_Pairing_spread⟩ := cd.def_ 18 (d := D_Pairing_spread) rfl
  obtain ⟨fd_Pairing_grow, F_Pairing_grow⟩ := cd.def_ 19 (d := D_Pairing_grow) rfl
  obtain ⟨fd_Pairing_add, F_Pairing_add⟩ := cd.def_ 20 (d := D_Pairing_add) rfl
  obtain ⟨fd_Pairing___init__, F_Pairing___init__⟩ := cd.def_ 21 (d := D_Pairing___init__) rfl
  obtain ⟨fd_law, F_law⟩ := cd.def_ 22 (d := D_law) rfl
  have g__law_cell := He.glo_ok X G (cd.fact 0 (f := .glo "_law_cell") rfl)
  have g__law_draws := He.glo_ok X G (cd.fact 1 (f := .glo "_law_draws") rfl)
  have g__law_same := He.glo_ok X G (cd.fact 2 (f := .glo "_law_same") rfl)
  have g__law_rows := He.glo_ok X G (cd.fact 3 (f := .glo "_law_rows") rfl)
  have g__law_fits := He.glo_ok X G (cd.fact 4 (f := .glo "_law_fits") rfl)
  have g__law_turned := He.glo_ok X G (cd.fact 5 (f := .glo "_law_turned") rfl)
  have g__law_led := He.glo_ok X G (cd.fact 6 (f := .glo "_law_led") rfl)
  have g__law_most := He.glo_ok X G (cd.fact 7 (f := .glo "_law_most") rfl)
  have g_law := He.glo_ok X G (cd.fact 8 (f := .glo "law") rfl)
  have g_Pairing := He.glo_ok X G (cd.fact 9 (f := .glo "Pairing") rfl)
  have cl_Pairing := He.cls_ok (cd.fact 10 (f := .cls "Pairing") rfl)
  have mt_Pairing_unsettled := He.meth_ok (cd.fact 11 (f := .meth "Pairing" "unsettled") rfl)
  have mt_Pairing_pairs := He.meth_ok (cd.fact 12 (f := .meth "Pairing" "pairs") rfl)
  have mt_Pairing_settled := He.meth_ok (cd.fact 13 (f := .meth "Pairing" "settled") rfl)
  have mt_Pairing_look := He.meth_ok (cd.fact 14 (f := .meth "Pairing" "look") rfl)
  have mt_Pairing_fits := He.meth_ok (cd.fact 15 (f := .meth "Pairing" "fits") rfl)
  have mt_Pairing_near := He.meth_ok (cd.fact 16 (f := .meth "Pairing" "near") rfl)
  have mt_Pairing_spread := He.meth_ok (cd.fact 17 (f := .meth "Pairing" "spread") rfl)
  have mt_Pairing_grow := He.meth_ok (cd.fact 18 (f := .meth "Pairing" "grow") rfl)
  have mt_Pairing_add := He.meth_ok (cd.fact 19 (f := .meth "Pairing" "add") rfl)
  have mk_Pairing := He.mkr_ok (cd.fact 20 (f := .mkr "Pairing") rfl)
  have na_Pairing_mates := He.noat_ok (cd.fact 21 (f := .noat "Pairing" "mates") rfl)
  have na_Pairing_rows := He.noat_ok (cd.fact 22 (f := .noat "Pairing" "rows") rfl)
  have g_RoundError := He.glo_ok X G (cd.fact 23 (f := .glo "RoundError") rfl)
  have g_BadKind := He.glo_ok X G (cd.fact 24 (f := .glo "BadKind") rfl)
  have g_BadRank := He.glo_ok X G (cd.fact 25 (f := .glo "BadRank") rfl)
  have g_NoGift := He.glo_ok X G (cd.fact 26 (f := .glo "NoGift") rfl)
  have h_abs := He.free_ok X G (cd.fact 27 (f := .free "abs") rfl)
  have h_all := He.free_ok X G (cd.fact 28 (f := .free "all") rfl)
  have h_bool := He.free_ok X G (cd.fact 29 (f := .free "bool") rfl)
  have h_dict := He.free_ok X G (cd.fact 30 (f := .free "dict") rfl)
  have h_int := He.free_ok X G (cd.fact 31 (f := .free "int") rfl)
  have h_isinstance := He.free_ok X G (cd.fact 32 (f := .free "isinstance") rfl)
  have h_len := He.free_ok X G (cd.fact 33 (f := .free "len") rfl)
  have h_list := He.free_ok X G (cd.fact 34 (f := .free "list") rfl)
  have h_max := He.free_ok X G (cd.fact 35 (f := .free "max") rfl)
  have h_min := He.free_ok X G (cd.fact 36 (f := .free "min") rfl)
  have h_range := He.free_ok X G (cd.fact 37 (f := .free "range") rfl)
  have h_sorted := He.free_ok X G (cd.fact 38 (f := .free "sorted") rfl)
  have h_str := He.free_ok X G (cd.fact 39 (f := .free "str") rfl)
  have h_tuple := He.free_ok X G (cd.fact 40 (f := .free "tuple") rfl)
  have g_KINDS := He.glo_ok X G (cd.fact 41 (f := .glo "KINDS") rfl)
  have e0 : cfB K "RoundError" "__init__" = true := all_at c.more 0 rfl
  have e1 : (excs.all fun c => (ecL K c).all id) = true := all_at c.more 1 rfl
  have cf := cfB_ok e0
  have ec : ∀ x ∈ excs, EC K mg x (He.ga K x) (He.ma K (He.ga K x) "__init__") := fun x hx => ecL_ok X G (List.all_eq_true.mp e1 x hx)
  have xw : ∀ x ∈ excs, ∀ C, mg x = some (.ref C) → XfC K C ∧ PySem.W.findIn K (.ref C) "word" = some none := fun x hx C hC => by
    have e := ec x hx
    cases (e.mg.symm.trans hC)
    exact ⟨e.xf, e.no⟩
  have h_KINDS : Ct K mg "KINDS" ["necklace", "armring"] := ctB_ok g_KINDS (all_at c.more 2 rfl)
  have fl_Pairing_mates : FldK K mg "Pairing" "mates" := fldK_of g_Pairing cl_Pairing na_Pairing_mates
  have fl_Pairing_rows : FldK K mg "Pairing" "rows" := fldK_of g_Pairing cl_Pairing na_Pairing_rows
  cases (hfa.symm.trans g_law)
  refine ⟨fd_law, fun s v => FunD.bindsA (ps := ["_law_script"]) F_law (fun _ _ _ _ _ _ us hl => match us, hl with | [_], _ => rfl) s [v] rfl, fun base _ _ => ?_⟩
  have FR : FnOk P w K mg base (L2.CX P w) 1 _ fd_i_RoundError ["self", "word"] (spR K) := okR (q1 := _) F_i_RoundError si_RoundError (by first | exact Or.inl rfl | exact Or.inr (Or.inl rfl)) (by first | exact Or.inl rfl | exact Or.inr (Or.inl rfl))
  have bR : Binds K fd_i_RoundError ["self", "word"] [] := FunD.bindsN F_i_RoundError fun _ _ _ _ _ _ us hl => match us, hl with | [_, _], _ => rfl
  have x_BadKind := xc_BadKind (P := P) (w := w) (base := base) F_i_BadKind (ec "BadKind" (by decide)) FR bR g_RoundError cf F_i_RoundError.kp
  have x_BadRank := xc_BadRank (P := P) (w := w) (base := base) F_i_BadRank (ec "BadRank" (by decide)) FR bR g_RoundError cf F_i_RoundError.kp
  have x_NoGift := xc_NoGift (P := P) (w := w) (base := base) F_i_NoGift (ec "NoGift" (by decide)) FR bR g_RoundError cf F_i_RoundError.kp
  have c__law_cell := ok__law_cell (P := P) (w := w) (base := base) F__law_cell g__law_cell h_len
  have c__law_draws := ok__law_draws (P := P) (w := w) (base := base) F__law_draws g__law_draws h_abs
  have c__law_same := ok__law_same (P := P) (w := w) (base := base) F__law_same g__law_same h_all h_bool h_int h_isinstance h_len h_list h_range h_str h_tuple 2
  have c__law_rows := ok__law_rows (P := P) (w := w) (base := base) F__law_rows g__law_rows h_int c__law_draws
  have c__law_fits := ok__law_fits (P := P) (w := w) (base := base) F__law_fits g__law_fits h_max h_min
  have c__law_turned := ok__law_turned (P := P) (w := w) (base := base) F__law_turned g__law_turned h_dict
  have c__law_led := ok__law_led (P := P) (w := w) (base := base) F__law_led g__law_led h_len h_range c__law_fits c__law_turned
  have c__law_most := ok__law_most (P := P) (w := w) (base := base) F__law_most g__law_most h_len h_max h_range h_tuple c__law_fits
  have c_Pairing_unsettled := ok_Pairing_unsettled (P := P) (w := w) (base := base) F_Pairing_unsettled g_Pairing cl_Pairing mt_Pairing_unsettled h_len h_range fl_Pairing_mates fl_Pairing_rows
  have c_Pairing_pairs := ok_Pairing_pairs (P := P) (w := w) (base := base) F_Pairing_pairs g_Pairing cl_Pairing mt_Pairing_pairs h_sorted fl_Pairing_mates
  have c_Pairing_settled := ok_Pairing_settled (P := P) (w := w) (base := base) F_Pairing_settled g_Pairing cl_Pairing mt_Pairing_settled h_sorted fl_Pairing_mates
  have c_Pairing_look := ok_Pairing_look (P := P) (w := w) (base := base) F_Pairing_look g_Pairing cl_Pairing mt_Pairing_look h_len fl_Pairing_rows x_NoGift
  have c_Pairing_fits := ok_Pairing_fits (P := P) (w := w) (base := base) F_Pairing_fits g_Pairing cl_Pairing mt_Pairing_fits h_max h_min fl_Pairing_rows c_Pairing_look
  have c_Pairing_near := ok_Pairing_near (P := P) (w := w) (base := base) F_Pairing_near g_Pairing cl_Pairing mt_Pairing_near h_len h_range fl_Pairing_rows c_Pairing_fits
  have c_Pairing_spread := ok_Pairing_spread (P := P) (w := w) (base := base) F_Pairing_spread g_Pairing cl_Pairing mt_Pairing_spread h_len h_list fl_Pairing_mates c_Pairing_near
  have c_Pairing_grow := ok_Pairing_grow (P := P) (w := w) (base := base) F_Pairing_grow g_Pairing cl_Pairing mt_Pairing_grow h_min fl_Pairing_mates c_Pairing_spread
  have c_Pairing_add := ok_Pairing_add (P := P) (w := w) (base := base) F_Pairing_add g_Pairing cl_Pairing mt_Pairing_add h_len h_KINDS fl_Pairing_rows c_Pairing_grow x_BadKind x_BadRank
  have k_Pairing := ok_Pairing___init__ (P := P) (w := w) (base := base) F_Pairing___init__ g_Pairing mk_Pairing fl_Pairing_mates fl_Pairing_rows
  exact law_calm (ok_law F_law h_len h_range k_Pairing c_Pairing_add c_Pairing_pairs c_Pairing_settled c_Pairing_unsettled c__law_cell c__law_led c__law_most c__law_rows c__law_same law_true)

end Wk07
end
open PySem PySem.W PySem.Calls PyProof.Rows
set_option maxHeartbeats 0 in
theorem PySem.Challenge.cw_shellround_k07_whole_as_many_pairs_as_ca_holds : PySem.Challenge.rw_shellround_k07_whole_as_many_pairs_as_ca.Holds := by
  w_on; o_law
  refine HandSHeadRun.head_any (r := OpenLaw.row PySem.Challenge.rw_shellround_k07_whole_as_many_pairs_as_ca) (q := view (OpenLaw.row PySem.Challenge.rw_shellround_k07_whole_as_many_pairs_as_ca).prog [18]) (H := Wk07.hk) (ob := Wk07.ob) (M := 4000) (loose := Wk07.loose) (d := HandSHeadRun.topDef (OpenLaw.row PySem.Challenge.rw_shellround_k07_whole_as_many_pairs_as_ca).prog 18) (kwd := []) Wk07.ob_eq
    (by kernel_rfl) (fun s => by kernel_rfl) Wk07.run (by kernel_rfl) (by kernel_rfl) (by kernel_rfl) (by rfl) (by first | assumption | decide +kernel) (by decide +kernel) ⟨rfl, rfl, rfl, rfl, rfl, by decide +kernel⟩ ?hw ?hc
  case hw => w_witness2
  case hc =>
    refine L2.walk_ofE (l := PySem.Challenge.rw_shellround_k07_whole_as_many_pairs_as_ca) (n := 63) (k := 10) (x := "_law_script") (CX := L2.CX0) rfl (by decide) (by kernel_rfl) ⟨rfl, by decide, by decide⟩ ?F (fun _ _ _ _ z => z)
    intro w mg fa h Y G hmg0
    obtain ⟨K, KX, c⟩ := Y
    have hmg : mg ("law" : PySem.Str) = some (.ref fa) := by
      have e : (HandSHeadRun.topDef (OpenLaw.row PySem.Challenge.rw_shellround_k07_whole_as_many_pairs_as_ca).prog 18).name = ("law" : PySem.Str) := by kernel_rfl
      rw [← e]
      exact hmg0
    obtain ⟨fd, hb, hF⟩ := Wk07.facts (P := (PySem.Challenge.rw_shellround_k07_whole_as_many_pairs_as_ca).prog) (w := w) KX G hmg c
    exact ⟨K, fd, DL.spLaw K, KX, hb, fun H a ns hl _ hS => ⟨a, ns, rfl, hl, hS, fun _ => rfl⟩, hF⟩


