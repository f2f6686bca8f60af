import PyProof.Rows.All
import Wide.All
import OpenK.AllK
import Wide.FinOn
import HandS.ForMost
import HandS.ForExc
import HandS.CallSlots
import HandS.ExcInit
import HandS.Defaults
import HandS.Conv
import HandS.SortInts
import HandS.More
import HandS.IsInst
import HandS.RaiseMore
import HandS.ExcOwn
import HandS.WordsExc
import HandS.ExcIs
import HandS.ExcField
import HandS.HeadHook4
import HandS.Head0
import HandS.Head1
import HandS.Head2
import HandS.HeadEnd
import HandS.Sort
import HandS.HeadHook3
import HandS.Text
import HandS.Iter
import HandS.Replace
import HandS.ReplaceLit
import PySem.Challenge.RW_shellround_k11_fleets_out_and_home
set_option Elab.async false
set_option linter.all false
set_option maxRecDepth 100000
set_option maxHeartbeats 4000000
namespace DL
open PySem PySem.Spec PyProof.Rows L2

/-! ### data by value -/
inductive D where
  | non | bl (b : Bool) | int (i : Int) | str (s : Str)
  | lst (xs : List D) | tup (xs : List D) | ctup (xs : List D)
  | dK (kvs : List (Key × D)) | dT (kvs : List (List Key × D))
  | ins (c : Str) (fs : List (Str × D))
  | obj (n : Nat)

structure Wd where
  K : PySem.W.Frag
  mg : Str → Option Value

/-- a tuple of the written part -/
def KT (K : PySem.W.Frag) (a : Addr) (xs : List V) : Prop :=
  ∃ (o : Obj) (its : Array Value) (n : Nat), K.lookup a = some o ∧ o.cls = .type "tuple" ∧ o.data = .seq its n ∧ its.size ≤ sizeLine ∧ Vals xs its.toList

mutual
def Rep (W : Wd) (H : Hp) (S : Addr → Prop) (ob : Nat → Option Addr) : D → V → Prop
  | .non, v => v = .non
  | .bl b, v => v = .bl b
  | .int i, v => v = .int i
  | .str s, v => v = .str s
  | .lst xs, v => ∃ a vs, v = .ref a ∧ S a ∧ H a = some (.lst vs) ∧ Reps W H S ob xs vs
  | .tup xs, v => ∃ a vs, v = .ref a ∧ H a = some (.tup vs) ∧ Reps W H S ob xs vs
  | .ctup xs, v => ∃ a vs, v = .ref a ∧ KT W.K a vs ∧ Reps W H S ob xs vs
  | .dK kvs, v => ∃ a vs, v = .ref a ∧ S a ∧ Rd H a (.dK vs) ∧ RepK W H S ob kvs vs
  | .dT kvs, v => ∃ a vs, v = .ref a ∧ S a ∧ Rd H a (.dT vs) ∧ RepT W H S ob kvs vs
  | .ins c fs, v => ∃ a C dx fv, v = .ref a ∧ S a ∧ W.mg c = some (.ref C) ∧ H a = some (.ins C dx fv) ∧ RepF W H S ob fs fv
  | .obj n, v => ∃ a, ob n = some a ∧ v = .ref a
def Reps (W : Wd) (H : Hp) (S : Addr → Prop) (ob : Nat → Option Addr) : List D → List V → Prop
  | [], vs => vs = []
  | d :: ds, vs => ∃ v r, vs = v :: r ∧ Rep W H S ob d v ∧ Reps W H S ob ds r
def RepK (W : Wd) (H : Hp) (S : Addr → Prop) (ob : Nat → Option Addr) : List (Key × D) → List (Key × V) → Prop
  | [], vs => vs = []
  | (k, d) :: ds, vs => ∃ v r, vs = (k, v) :: r ∧ Rep W H S ob d v ∧ RepK W H S ob ds r
def RepT (W : Wd) (H : Hp) (S : Addr → Prop) (ob : Nat → Option Addr) : List (List Key × D) → List (List Key × V) → Prop
  | [], vs => vs = []
  | (k, d) :: ds, vs => ∃ v r, vs = (k, v) :: r ∧ Rep W H S ob d v ∧ RepT W H S ob ds r
def RepF (W : Wd) (H : Hp) (S : Addr → Prop) (ob : Nat → Option Addr) : List (Str × D) → List (Str × V) → Prop
  | [], vs => vs = []
  | (k, d) :: ds, vs => ∃ v r, vs = (k, v) :: r ∧ Rep W H S ob d v ∧ RepF W H S ob ds r
end

/-- what a representation leans on is kept -/
structure Kp (H H' : Hp) (S S' : Addr → Prop) (ob ob' : Nat → Option Addr) : Prop where
  s : ∀ a u, S a → H a = some u → S' a
  k : ∀ a u, S a → H a = some u → H' a = some u
  t : ∀ a xs, H a = some (.tup xs) → H' a = some (.tup xs)
  o : ∀ n a, ob n = some a → ob' n = some a
theorem Kp.rd {H H' : Hp} {S S' : Addr → Prop} {ob ob' : Nat → Option Addr} (k : Kp H H' S S' ob ob') {a : Addr} {u : HO} (s : S a) (h : Rd H a u) : S' a ∧ Rd H' a u := by
  rcases h with h | ⟨o, h⟩
  · exact ⟨k.s a _ s h, .inl (k.k a _ s h)⟩
  · exact ⟨k.s a _ s h, .inr ⟨o, k.k a _ s h⟩⟩
mutual
theorem Rep.mono {W : Wd} {H H' : Hp} {S S' : Addr → Prop} {ob ob' : Nat → Option Addr} (k : Kp H H' S S' ob ob') : ∀ (d : D) (v : V), Rep W H S ob d v → Rep W H' S' ob' d v
  | .non, v, h => h
  | .bl b, v, h => h
  | .int i, v, h => h
  | .str s, v, h => h
  | .lst xs, v, h => by
    obtain ⟨a, vs, e, s, r, q⟩ := h
    exact ⟨a, vs, e, k.s a _ s r, k.k a _ s r, Reps.mono k xs vs q⟩
  | .tup xs, v, h => by
    obtain ⟨a, vs, e, r, q⟩ := h
    exact ⟨a, vs, e, k.t _ _ r, Reps.mono k xs vs q⟩
  | .ctup xs, v, h => by
    obtain ⟨a, vs, e, r, q⟩ := h
    exact ⟨a, vs, e, r, Reps.mono k xs vs q⟩
  | .dK kvs, v, h => by
    obtain ⟨a, vs, e, s, r, q⟩ := h
    exact ⟨a, vs, e, (k.rd s r).1, (k.rd s r).2, RepK.mono k kvs vs q⟩
  | .dT kvs, v, h => by
    obtain ⟨a, vs, e, s, r, q⟩ := h
    exact ⟨a, vs, e, (k.rd s r).1, (k.rd s r).2, RepT.mono k kvs vs q⟩
  | .ins c fs, v, h => by
    obtain ⟨a, C, dx, fv, e, s, m, r, q⟩ := h
    exact ⟨a, C, dx, fv, e, k.s a _ s r, m, k.k a _ s r, RepF.mono k fs fv q⟩
  | .obj n, v, h => by
    obtain ⟨a, e, q⟩ := h
    exact ⟨a, k.o n a e, q⟩
theorem Reps.mono {W : Wd} {H H' : Hp} {S S' : Addr → Prop} {ob ob' : Nat → Option Addr} (k : Kp H H' S S' ob ob') : ∀ (ds : List D) (vs : List V), Reps W H S ob ds vs → Reps W H' S' ob' ds vs
  | [], _, h => h
  | d :: ds, _, h => by
    obtain ⟨v, r, e, p, q⟩ := h
    exact ⟨v, r, e, Rep.mono k d v p, Reps.mono k ds r q⟩
theorem RepK.mono {W : Wd} {H H' : Hp} {S S' : Addr → Prop} {ob ob' : Nat → Option Addr} (k : Kp H H' S S' ob ob') : ∀ (ds : List (Key × D)) (vs : List (Key × V)), RepK W H S ob ds vs → RepK W H' S' ob' ds vs
  | [], _, h => h
  | (x, d) :: ds, _, h => by
    obtain ⟨v, r, e, p, q⟩ := h
    exact ⟨v, r, e, Rep.mono k d v p, RepK.mono k ds r q⟩
theorem RepT.mono {W : Wd} {H H' : Hp} {S S' : Addr → Prop} {ob ob' : Nat → Option Addr} (k : Kp H H' S S' ob ob') : ∀ (ds : List (List Key × D)) (vs : List (List Key × V)), RepT W H S ob ds vs → RepT W H' S' ob' ds vs
  | [], _, h => h
  | (x, d) :: ds, _, h => by
    obtain ⟨v, r, e, p, q⟩ := h
    exact ⟨v, r, e, Rep.mono k d v p, RepT.mono k ds r q⟩
theorem RepF.mono {W : Wd} {H H' : Hp} {S S' : Addr → Prop} {ob ob' : Nat → Option Addr} (k : Kp H H' S S' ob ob') : ∀ (ds : List (Str × D)) (vs : List (Str × V)), RepF W H S ob ds vs → RepF W H' S' ob' ds vs
  | [], _, h => h
  | (x, d) :: ds, _, h => by
    obtain ⟨v, r, e, p, q⟩ := h
    exact ⟨v, r, e, Rep.mono k d v p, RepF.mono k ds r q⟩
end
theorem Kp.same {H H' : Hp} {S : Addr → Prop} {ob : Nat → Option Addr} (s : Same H H') : Kp H H' S S ob ob where
  s := fun _ _ h _ => h
  k := fun a u _ h => s a u h
  t := fun a xs h => s a _ h
  o := fun _ _ h => h
theorem Kp.sub {H : Hp} {S S' : Addr → Prop} {ob : Nat → Option Addr} (s : ∀ a u, S a → H a = some u → S' a) : Kp H H S S' ob ob where
  s := s
  k := fun _ _ _ h => h
  t := fun _ _ h => h
  o := fun _ _ h => h

/-! ### lists of representations -/
section
variable {W : Wd} {H : Hp} {S : Addr → Prop} {ob : Nat → Option Addr}
theorem Reps.len : ∀ {ds : List D} {vs : List V}, Reps W H S ob ds vs → vs.length = ds.length
  | [], _, h => by rw [show _ = [] from h]; rfl
  | d :: ds, _, h => by
    obtain ⟨v, r, e, p, q⟩ := h
    rw [e, List.length_cons, List.length_cons, Reps.len q]
theorem Reps.get : ∀ {ds : List D} {vs : List V} {i : Nat} {d : D}, Reps W H S ob ds vs → ds[i]? = some d → ∃ v, vs[i]? = some v ∧ Rep W H S ob d v
  | [], _, i, d, _, e => by simp at e
  | x :: ds, _, i, d, h, e => by
    obtain ⟨v, r, rfl, p, q⟩ := h
    cases i with
    | zero =>
      have e' : x = d := by simpa using e
      subst e'
      exact ⟨v, rfl, p⟩
    | succ i =>
      obtain ⟨v', e1, e2⟩ := Reps.get q (i := i) (d := d) (by simpa using e)
      exact ⟨v', by simpa using e1, e2⟩
theorem Reps.get' : ∀ {ds : List D} {vs : List V} {i : Nat} {v : V}, Reps W H S ob ds vs → vs[i]? = some v → ∃ d, ds[i]? = some d ∧ Rep W H S ob d v
  | [], _, i, v, h, e => by rw [show _ = [] from h] at e; simp at e
  | x :: ds, _, i, v, h, e => by
    obtain ⟨w, r, rfl, p, q⟩ := h
    cases i with
    | zero =>
      have e' : w = v := by simpa using e
      subst e'
      exact ⟨x, rfl, p⟩
    | succ i =>
      obtain ⟨d, e1, e2⟩ := Reps.get' q (i := i) (v := v) (by simpa using e)
      exact ⟨d, by simpa using e1, e2⟩
theorem Reps.app : ∀ {ds es : List D} {vs ws : List V}, Reps W H S ob ds vs → Reps W H S ob es ws → Reps W H S ob (ds ++ es) (vs ++ ws)
  | [], es, _, ws, h, h' => by rw [show _ = [] from h]; exact h'
  | d :: ds, es, _, ws, h, h' => by
    obtain ⟨v, r, rfl, p, q⟩ := h
    exact ⟨v, r ++ ws, rfl, p, Reps.app q h'⟩
theorem Reps.one {d : D} {v : V} (h : Rep W H S ob d v) : Reps W H S ob [d] [v] := ⟨v, [], rfl, h, rfl⟩
theorem Reps.nil : Reps W H S ob [] [] := rfl
theorem Reps.cons {d : D} {ds : List D} {v : V} {vs : List V} (h : Rep W H S ob d v) (t : Reps W H S ob ds vs) : Reps W H S ob (d :: ds) (v :: vs) := ⟨v, vs, rfl, h, t⟩
theorem Reps.take : ∀ {ds : List D} {vs : List V} (n : Nat), Reps W H S ob ds vs → Reps W H S ob (ds.take n) (vs.take n)
  | [], _, n, h => by rw [show _ = [] from h]; simp; exact Reps.nil
  | d :: ds, _, 0, h => Reps.nil
  | d :: ds, _, n + 1, h => by
    obtain ⟨v, r, rfl, p, q⟩ := h
    exact ⟨v, _, rfl, p, Reps.take n q⟩
theorem Reps.drop : ∀ {ds : List D} {vs : List V} (n : Nat), Reps W H S ob ds vs → Reps W H S ob (ds.drop n) (vs.drop n)
  | [], _, n, h => by rw [show _ = [] from h]; simp; exact Reps.nil
  | d :: ds, _, 0, h => h
  | d :: ds, _, n + 1, h => by
    obtain ⟨v, r, rfl, p, q⟩ := h
    exact Reps.drop n q
theorem Reps.rev : ∀ {ds : List D} {vs : List V}, Reps W H S ob ds vs → Reps W H S ob ds.reverse vs.reverse
  | [], _, h => by rw [show _ = [] from h]; exact Reps.nil
  | d :: ds, _, h => by
    obtain ⟨v, r, rfl, p, q⟩ := h
    rw [List.reverse_cons, List.reverse_cons]
    exact Reps.app (Reps.rev q) (Reps.one p)
theorem Reps.ints : ∀ {ns : List Int} {vs : List V}, Reps W H S ob (ns.map D.int) vs → vs = ns.map V.int
  | [], _, h => h
  | n :: ns, _, h => by
    obtain ⟨v, r, rfl, p, q⟩ := h
    rw [show v = .int n from p, Reps.ints q]; rfl
theorem Reps.ofInts : ∀ (ns : List Int), Reps W H S ob (ns.map D.int) (ns.map V.int)
  | [] => rfl
  | n :: ns => ⟨_, _, rfl, rfl, Reps.ofInts ns⟩
theorem Reps.strs : ∀ {ns : List Str} {vs : List V}, Reps W H S ob (ns.map D.str) vs → vs = ns.map V.str
  | [], _, h => h
  | n :: ns, _, h => by
    obtain ⟨v, r, rfl, p, q⟩ := h
    rw [show v = .str n from p, Reps.strs q]; rfl
theorem Reps.ofStrs : ∀ (ns : List Str), Reps W H S ob (ns.map D.str) (ns.map V.str)
  | [] => rfl
  | n :: ns => ⟨_, _, rfl, rfl, Reps.ofStrs ns⟩
theorem Reps.bls : ∀ {ns : List Bool} {vs : List V}, Reps W H S ob (ns.map D.bl) vs → vs = ns.map V.bl
  | [], _, h => h
  | n :: ns, _, h => by
    obtain ⟨v, r, rfl, p, q⟩ := h
    rw [show v = .bl n from p, Reps.bls q]; rfl
/-- a list of D whose items are all ints, strs, bools, by a partial function -/
def D.ints? : List D → Option (List Int)
  | [] => some []
  | .int i :: r => (D.ints? r).map (i :: ·)
  | _ :: _ => none
theorem D.ints_some : ∀ {ds : List D} {ns : List Int}, D.ints? ds = some ns → ds = ns.map D.int
  | [], ns, h => by
    have e : [] = ns := Option.some.inj h
    subst e; rfl
  | .int i :: r, ns, h => by
    have h : (D.ints? r).map (i :: ·) = some ns := h
    cases e : D.ints? r with
    | none => rw [e] at h; cases h
    | some q =>
      rw [e] at h
      have e2 : i :: q = ns := Option.some.inj h
      rw [← e2, D.ints_some e]; rfl
  | .non :: _, _, h | .bl _ :: _, _, h | .str _ :: _, _, h | .lst _ :: _, _, h | .tup _ :: _, _, h | .ctup _ :: _, _, h | .dK _ :: _, _, h | .dT _ :: _, _, h | .ins _ _ :: _, _, h | .obj _ :: _, _, h => by cases h
@[simp] theorem D.ints_map : ∀ (ns : List Int), D.ints? (ns.map D.int) = some ns
  | [] => rfl
  | n :: ns => by show (D.ints? (ns.map D.int)).map (n :: ·) = _; rw [D.ints_map ns]; rfl
def D.strs? : List D → Option (List Str)
  | [] => some []
  | .str i :: r => (D.strs? r).map (i :: ·)
  | _ :: _ => none
theorem D.strs_some : ∀ {ds : List D} {ns : List Str}, D.strs? ds = some ns → ds = ns.map D.str
  | [], ns, h => by
    have e : [] = ns := Option.some.inj h
    subst e; rfl
  | .str i :: r, ns, h => by
    have h : (D.strs? r).map (i :: ·) = some ns := h
    cases e : D.strs? r with
    | none => rw [e] at h; cases h
    | some q =>
      rw [e] at h
      have e2 : i :: q = ns := Option.some.inj h
      rw [← e2, D.strs_some e]; rfl
  | .non :: _, _, h | .bl _ :: _, _, h | .int _ :: _, _, h | .lst _ :: _, _, h | .tup _ :: _, _, h | .ctup _ :: _, _, h | .dK _ :: _, _, h | .dT _ :: _, _, h | .ins _ _ :: _, _, h | .obj _ :: _, _, h => by cases h
@[simp] theorem D.strs_map : ∀ (ns : List Str), D.strs? (ns.map D.str) = some ns
  | [] => rfl
  | n :: ns => by show (D.strs? (ns.map D.str)).map (n :: ·) = _; rw [D.strs_map ns]; rfl
def D.bls? : List D → Option (List Bool)
  | [] => some []
  | .bl i :: r => (D.bls? r).map (i :: ·)
  | _ :: _ => none
theorem D.bls_some : ∀ {ds : List D} {ns : List Bool}, D.bls? ds = some ns → ds = ns.map D.bl
  | [], ns, h => by
    have e : [] = ns := Option.some.inj h
    subst e; rfl
  | .bl i :: r, ns, h => by
    have h : (D.bls? r).map (i :: ·) = some ns := h
    cases e : D.bls? r with
    | none => rw [e] at h; cases h
    | some q =>
      rw [e] at h
      have e2 : i :: q = ns := Option.some.inj h
      rw [← e2, D.bls_some e]; rfl
  | .non :: _, _, h | .str _ :: _, _, h | .int _ :: _, _, h | .lst _ :: _, _, h | .tup _ :: _, _, h | .ctup _ :: _, _, h | .dK _ :: _, _, h | .dT _ :: _, _, h | .ins _ _ :: _, _, h | .obj _ :: _, _, h => by cases h
@[simp] theorem D.bls_map : ∀ (ns : List Bool), D.bls? (ns.map D.bl) = some ns
  | [] => rfl
  | n :: ns => by show (D.bls? (ns.map D.bl)).map (n :: ·) = _; rw [D.bls_map ns]; rfl
end

/-! ### places, what owns what -/
inductive Pl where
  | sl (i : Nat) | fd (n : Nat) (f : Str) | ob (n : Nat) | fg (a : Addr)
  deriving DecidableEq
abbrev Lc := Pl → Option Addr
def Fr (L : Lc) (B : List Nat) : Addr → Prop := fun a => ∀ p, L p = some a → ∃ i, i ∈ B ∧ p = .sl i
def obs (L : Lc) : Nat → Option Addr := fun n => L (.ob n)
theorem Fr.mono {L : Lc} {B B' : List Nat} (h : ∀ i ∈ B, i ∈ B') {a : Addr} (s : Fr L B a) : Fr L B' a := fun p e => by
  obtain ⟨i, m, q⟩ := s p e
  exact ⟨i, h i m, q⟩
inductive Sl where
  | no | val (d : D) | own (d : D)
structure Ob where
  cls : Str
  fs : List (Str × Sl)
abbrev Store := List Ob
abbrev Env' := List Sl
/-- what may be owned -/
def isC : HO → Bool
  | .lst _ => true
  | .dK _ => true
  | .dT _ => true
  | .ins _ _ _ => true
  | .frz _ u => isC u
  | _ => false
def AtE (ex : Bool) (H : Hp) (a : Addr) (u : HO) : Prop := (ex = true → H a = some u) ∧ Rd H a u
theorem AtE.rd {ex : Bool} {H : Hp} {a : Addr} {u : HO} (h : AtE ex H a u) : Rd H a u := h.2
theorem AtE.of {H : Hp} {a : Addr} {u : HO} {ex : Bool} (h : H a = some u) : AtE ex H a u := ⟨fun _ => h, .inl h⟩
def RepO (W : Wd) (H : Hp) (S : Addr → Prop) (ob : Nat → Option Addr) (ex : Bool) : D → Addr → Prop
  | .lst xs, a => ∃ vs, H a = some (.lst vs) ∧ Reps W H S ob xs vs
  | .dK kvs, a => ∃ vs, AtE ex H a (.dK vs) ∧ RepK W H S ob kvs vs
  | .dT kvs, a => ∃ vs, AtE ex H a (.dT vs) ∧ RepT W H S ob kvs vs
  | _, _ => False
def SltR (W : Wd) (H : Hp) (L : Lc) (p : Pl) (ex : Bool) : Sl → Option V → Prop
  | .no, _ => True
  | .val d, v => ∃ x, v = some x ∧ Rep W H (Fr L []) (obs L) d x
  | .own d, v => ∃ a, v = some (.ref a) ∧ L p = some a ∧ RepO W H (Fr L []) (obs L) ex d a
def FsR (W : Wd) (H : Hp) (L : Lc) (n : Nat) (ex : Bool) : List (Str × Sl) → List (Str × V) → Prop
  | [], vs => vs = []
  | (f, s) :: r, vs => ∃ v t, vs = (f, v) :: t ∧ SltR W H L (.fd n f) ex s (some v) ∧ FsR W H L n ex r t
structure ObR (W : Wd) (H : Hp) (L : Lc) (ex : Bool) (n : Nat) (o : Ob) : Prop where
  at_ : ∃ p C dx fs, L (.ob n) = some p ∧ W.mg o.cls = some (.ref C) ∧ H p = some (.ins C dx fs) ∧ FsR W H L n ex o.fs fs
def Mt (n0 : Nat) : Pl → Prop
  | .sl _ => True
  | .fd n _ => n0 ≤ n
  | .ob n => n0 ≤ n
  | .fg _ => False
def MS (n0 : Nat) : Pl → Prop
  | .sl _ => False
  | .fd n _ => n0 ≤ n
  | .ob n => n0 ≤ n
  | .fg _ => False
theorem MS.mt {n0 : Nat} {p : Pl} (h : MS n0 p) : Mt n0 p := by cases p <;> first | exact h | exact h.elim
structure Aft (n0 : Nat) (L : Lc) (H : Hp) (L' : Lc) (H' : Hp) : Prop where
  keep : ∀ a u, H a = some u → (∀ p, L p = some a → ¬ Mt n0 p) → H' a = some u
  newS : ∀ i a, L' (.sl i) = some a → (∃ j, L (.sl j) = some a) ∨ H a = none
  newM : ∀ p a, MS n0 p → L' p = some a → (∃ q, MS n0 q ∧ L q = some a) ∨ H a = none
  prot : ∀ p, ¬ Mt n0 p → L' p = L p
  obk : ∀ n a, L (.ob n) = some a → L' (.ob n) = some a
  there : ∀ a u, H a = some u → ∃ v, H' a = some v
structure Stp (n0 : Nat) (L : Lc) (H : Hp) (L' : Lc) (H' : Hp) : Prop where
  keep : ∀ a u, H a = some u → (∀ p, L p = some a → ¬ MS n0 p) → H' a = some u
  newM : ∀ p a, MS n0 p → L' p = some a → (∃ q, MS n0 q ∧ L q = some a) ∨ H a = none
  prot : ∀ p, ¬ MS n0 p → L' p = L p
  obk : ∀ n a, L (.ob n) = some a → L' (.ob n) = some a
  there : ∀ a u, H a = some u → ∃ v, H' a = some v
theorem Mt.cases {n0 : Nat} {p : Pl} (h : Mt n0 p) : (∃ i, p = .sl i) ∨ MS n0 p := by
  cases p with
  | sl i => exact .inl ⟨i, rfl⟩
  | fd n f => exact .inr h
  | ob n => exact .inr h
  | fg a => exact h.elim
theorem Aft.new {n0 : Nat} {L L' : Lc} {H H' : Hp} (x : Aft n0 L H L' H') (p : Pl) (a : Addr) (m : Mt n0 p) (e : L' p = some a) : (∃ q, Mt n0 q ∧ L q = some a) ∨ H a = none := by
  rcases m.cases with ⟨i, rfl⟩ | m
  · rcases x.newS i a e with ⟨j, q⟩ | z
    · exact .inl ⟨.sl j, trivial, q⟩
    · exact .inr z
  · rcases x.newM p a m e with ⟨q, mq, eq⟩ | z
    · exact .inl ⟨q, mq.mt, eq⟩
    · exact .inr z
theorem Aft.fresh {n0 : Nat} {L0 L : Lc} {H0 H : Hp} (x : Aft n0 L0 H0 L H) {a : Addr} (h : H a = none) : H0 a = none := by
  cases e : H0 a with
  | none => rfl
  | some u =>
    obtain ⟨v, q⟩ := x.there a u e
    rw [h] at q; cases q
theorem Aft.refl {n0 : Nat} {L : Lc} {H : Hp} : Aft n0 L H L H := ⟨fun _ _ h _ => h, fun i a h => .inl ⟨i, h⟩, fun p a m h => .inl ⟨p, m, h⟩, fun _ _ => rfl, fun _ _ h => h, fun a u h => ⟨u, h⟩⟩
theorem Stp.same {n0 : Nat} {L : Lc} {H H' : Hp} (s : Same H H') : Stp n0 L H L H' := ⟨fun a u h _ => s a u h, fun p a m h => .inl ⟨p, m, h⟩, fun _ _ => rfl, fun _ _ h => h, fun a u h => ⟨u, s a u h⟩⟩
theorem Aft.step {n0 : Nat} {L0 L L' : Lc} {H0 H H' : Hp} (x : Aft n0 L0 H0 L H) (y : Stp n0 L H L' H') : Aft n0 L0 H0 L' H' where
  keep := fun a u h hp => by
    refine y.keep a u (x.keep a u h hp) fun p e m => ?_
    rcases x.newM p a m e with ⟨q, mq, eq⟩ | z
    · exact hp q eq mq.mt
    · rw [h] at z; cases z
  newS := fun i a e => by
    rw [y.prot (.sl i) (fun z => z)] at e
    exact x.newS i a e
  newM := fun p a m e => by
    rcases y.newM p a m e with ⟨q, mq, eq⟩ | z
    · exact x.newM q a mq eq
    · exact .inr (x.fresh z)
  prot := fun p m => (y.prot p fun z => m z.mt).trans (x.prot p m)
  obk := fun n a h => y.obk n a (x.obk n a h)
  there := fun a u h => by
    obtain ⟨v, q⟩ := x.there a u h
    exact y.there a v q
theorem Aft.trans {n0 : Nat} {L0 L L' : Lc} {H0 H H' : Hp} (x : Aft n0 L0 H0 L H) (y : Aft n0 L H L' H') : Aft n0 L0 H0 L' H' where
  keep := fun a u h hp => by
    refine y.keep a u (x.keep a u h hp) fun p e m => ?_
    rcases x.new p a m e with ⟨q, mq, eq⟩ | z
    · exact hp q eq mq
    · rw [h] at z; cases z
  newS := fun i a e => by
    rcases y.newS i a e with ⟨j, q⟩ | z
    · exact x.newS j a q
    · exact .inr (x.fresh z)
  newM := fun p a m e => by
    rcases y.newM p a m e with ⟨q, mq, eq⟩ | z
    · exact x.newM q a mq eq
    · exact .inr (x.fresh z)
  prot := fun p m => (y.prot p m).trans (x.prot p m)
  obk := fun n a h => y.obk n a (x.obk n a h)
  there := fun a u h => by
    obtain ⟨v, q⟩ := x.there a u h
    exact y.there a v q

/-- the frame: how many objects are not to be changed; where it began -/
structure Fm where
  n0 : Nat
  L0 : Lc
  H0 : Hp
structure Rel (W : Wd) (F : Fm) (ρ : Env') (ω : Store) (L : Lc) (σ : L2.St) (H : Hp) : Prop where
  inj : ∀ p q a, L p = some a → L q = some a → p = q
  alive : ∀ p a, L p = some a → ∃ u, H a = some u ∧ isC u = true
  aft : Aft F.n0 F.L0 F.H0 L H
  fgs : ∀ a b, L (.fg a) = some b → b = a
  len : σ.length = ρ.length
  sl : ∀ i s, ρ[i]? = some s → SltR W H L (.sl i) true s (σ[i]?.join)
  st : ∀ n o, ω[n]? = some o → ObR W H L (decide (F.n0 ≤ n)) n o
  dom : ∀ n, ω.length ≤ n → L (.ob n) = none ∧ ∀ f, L (.fd n f) = none

section
variable {W : Wd} {H H' : Hp} {L L' : Lc} {F : Fm} {ρ : Env'} {ω : Store} {σ : L2.St}
theorem AtE.same {ex : Bool} {a : Addr} {u : HO} (s : Same H H') (h : AtE ex H a u) : AtE ex H' a u := by
  refine ⟨fun e => s a u (h.1 e), ?_⟩
  rcases h.2 with h | ⟨o, h⟩
  · exact .inl (s a _ h)
  · exact .inr ⟨o, s a _ h⟩
theorem RepO.same {S : Addr → Prop} {ob : Nat → Option Addr} {ex : Bool} (s : Same H H') : ∀ (d : D) (a : Addr), RepO W H S ob ex d a → RepO W H' S ob ex d a
  | .lst xs, a, ⟨vs, h, q⟩ => ⟨vs, s _ _ h, Reps.mono (Kp.same s) xs vs q⟩
  | .dK xs, a, ⟨vs, h, q⟩ => ⟨vs, h.same s, RepK.mono (Kp.same s) xs vs q⟩
  | .dT xs, a, ⟨vs, h, q⟩ => ⟨vs, h.same s, RepT.mono (Kp.same s) xs vs q⟩
  | .non, _, h | .bl _, _, h | .int _, _, h | .str _, _, h | .tup _, _, h | .ctup _, _, h | .ins _ _, _, h | .obj _, _, h => h.elim
theorem SltR.same {p : Pl} {ex : Bool} (s : Same H H') : ∀ (x : Sl) (v : Option V), SltR W H L p ex x v → SltR W H' L p ex x v
  | .no, _, _ => trivial
  | .val d, v, ⟨x, e, h⟩ => ⟨x, e, Rep.mono (Kp.same s) d x h⟩
  | .own d, v, ⟨a, e, l, h⟩ => ⟨a, e, l, RepO.same s d a h⟩
theorem FsR.same {n : Nat} {ex : Bool} (s : Same H H') : ∀ (fs : List (Str × Sl)) (vs : List (Str × V)), FsR W H L n ex fs vs → FsR W H' L n ex fs vs
  | [], _, h => h
  | (f, x) :: r, _, ⟨v, t, e, h, q⟩ => ⟨v, t, e, SltR.same s x _ h, FsR.same s r t q⟩
theorem ObR.same {n : Nat} {ex : Bool} {o : Ob} (s : Same H H') (h : ObR W H L ex n o) : ObR W H' L ex n o := by
  obtain ⟨p, C, dx, fs, e1, e2, e3, q⟩ := h.at_
  exact ⟨p, C, dx, fs, e1, e2, s _ _ e3, FsR.same s _ _ q⟩
theorem Rel.same (r : Rel W F ρ ω L σ H) (s : Same H H') : Rel W F ρ ω L σ H' :=
  ⟨r.inj, fun p a e => by
    obtain ⟨u, h, c⟩ := r.alive p a e
    exact ⟨u, s a u h, c⟩, r.aft.step (Stp.same s), r.fgs, r.len, fun i x e => SltR.same s x _ (r.sl i x e), fun n o e => (r.st n o e).same s, r.dom⟩
end

/-! ### results -/
structure Er where
  cls : Str
  word : Str
inductive Res (α : Type) where
  | stuck | ok (a : α) | err (e : Er)
def Res.bind {α β : Type} : Res α → (α → Res β) → Res β
  | .stuck, _ => .stuck
  | .ok a, f => f a
  | .err e, _ => .err e
/-- an exception of ours -/
structure Exc (W : Wd) (H : Hp) (e : Er) (cls : Value) (dd : Option Addr) : Prop where
  at_ : ∃ C d, W.mg e.cls = some (.ref C) ∧ cls = .ref C ∧ dd = some d ∧ H d = some (.xd [("word", .str e.word)])
abbrev M := Env' → Store → Res D
def Leaf (W : Wd) (Wx : WX) (L : Lc) (B : List Nat) (σ : L2.St) (H : Hp) (Q : VK) : Res D → Prop
  | .stuck => False
  | .ok d => ∀ v H', Same H H' → Rep W H' (Fr L B) (obs L) d v → Q v H'
  | .err e => ∀ cls dd H', Same H H' → Exc W H' e cls dd → Wx cls dd σ H'
def tP (W : Wd) (Wx : WX) (B : List Nat) (m : M) : TE := fun σ H Q => ∃ F ρ ω L, Rel W F ρ ω L σ H ∧ Leaf W Wx L B σ H Q (m ρ ω)
/-- a test -/
def LeafB (W : Wd) (Wx : WX) (L : Lc) (σ : L2.St) (H : Hp) (Q : Bool → Hp → Prop) : Res Bool → Prop
  | .stuck => False
  | .ok b => ∀ H', Same H H' → Q b H'
  | .err e => ∀ cls dd H', Same H H' → Exc W H' e cls dd → Wx cls dd σ H'
def tT (W : Wd) (Wx : WX) (m : Env' → Store → Res Bool) : TT := fun σ H Q => ∃ F ρ ω L, Rel W F ρ ω L σ H ∧ LeafB W Wx L σ H Q (m ρ ω)
abbrev wd (X : Cx) : Wd := ⟨X.K, X.mg⟩
structure DP (X : Cx) (Wx : WX) (B : List Nat) (e : Expr) (m : M) : Prop where
  pe : PE X e (tP (wd X) Wx B m)
structure DB (X : Cx) (Wx : WX) (e : Expr) (m : Env' → Store → Res Bool) : Prop where
  pt : PT X e (tT (wd X) Wx m)
theorem PE.weak {X : Cx} {e : Expr} {t t' : TE} (h : PE X e t) (w : ∀ σ H Q, t' σ H Q → t σ H Q) : PE X e t' := ⟨fun pins s σ H Q I q => h.run pins s σ H Q I (w σ H Q q)⟩
theorem PT.weak {X : Cx} {e : Expr} {t t' : TT} (h : PT X e t) (w : ∀ σ H Q, t' σ H Q → t σ H Q) : PT X e t' := ⟨fun pins s σ H Q I q => h.run pins s σ H Q I (w σ H Q q)⟩
theorem PS.weak {X : Cx} {e : Stmt} {t t' : TS} (h : PS X e t) (w : ∀ D σ H, t' D σ H → t D σ H) : PS X e t' := ⟨fun pins s σ H D I q => h.run pins s σ H D I (w D σ H q)⟩
theorem PSs.weak {X : Cx} {e : List Stmt} {t t' : TS} (h : PSs X e t) (w : ∀ D σ H, t' D σ H → t D σ H) : PSs X e t' := ⟨fun pins s σ H D I q => h.run pins s σ H D I (w D σ H q)⟩
theorem Leaf.to {W : Wd} {Wx : WX} {L : Lc} {B B' : List Nat} {σ : L2.St} {H H' : Hp} {Q Q' : VK} {r : Res D} (h : Leaf W Wx L B σ H Q r) (s : Same H H') (hB : ∀ i ∈ B', i ∈ B) (hQ : ∀ v H, Q v H → Q' v H) : Leaf W Wx L B' σ H' Q' r := by
  cases r with
  | stuck => exact h
  | ok d => exact fun v H2 s2 r => hQ _ _ (h v H2 (s.trans s2) (Rep.mono (Kp.sub fun a u f _ => Fr.mono hB f) d v r))
  | err e => exact fun c d H2 s2 r => h c d H2 (s.trans s2) r
theorem LeafB.to {W : Wd} {Wx : WX} {L : Lc} {σ : L2.St} {H H' : Hp} {Q Q' : Bool → Hp → Prop} {r : Res Bool} (h : LeafB W Wx L σ H Q r) (s : Same H H') (hQ : ∀ v H, Q v H → Q' v H) : LeafB W Wx L σ H' Q' r := by
  cases r with
  | stuck => exact h
  | ok d => exact fun H2 s2 => hQ _ _ (h H2 (s.trans s2))
  | err e => exact fun c d H2 s2 r => h c d H2 (s.trans s2) r
end DL
namespace DL
open PySem PySem.Spec PyProof.Rows L2

def Al (L : Lc) (H : Hp) : Prop := ∀ p a, L p = some a → ∃ u, H a = some u
theorem Rel.al {W : Wd} {F : Fm} {ρ : Env'} {ω : Store} {L : Lc} {σ : L2.St} {H : Hp} (r : Rel W F ρ ω L σ H) : Al L H := fun p a e => by
  obtain ⟨u, h, _⟩ := r.alive p a e
  exact ⟨u, h⟩
theorem Al.fr {L : Lc} {H : Hp} (h : Al L H) {a : Addr} (n : H a = none) (B : List Nat) : Fr L B a := fun p e => by
  obtain ⟨u, q⟩ := h p a e
  rw [n] at q; cases q
theorem Al.same {L : Lc} {H H' : Hp} (h : Al L H) (s : Same H H') : Al L H' := fun p a e => by
  obtain ⟨u, q⟩ := h p a e
  exact ⟨u, s a u q⟩
theorem same_upd {H : Hp} {p : Addr} {o : HO} (n : H p = none) : Same H (upd H p o) := fun b u e => by
  rw [upd_ne (ne_of_none e n)]; exact e
theorem Rep.same {W : Wd} {H H' : Hp} {S : Addr → Prop} {ob : Nat → Option Addr} {d : D} {v : V} (h : Rep W H S ob d v) (s : Same H H') : Rep W H' S ob d v := Rep.mono (Kp.same s) d v h
theorem Reps.same {W : Wd} {H H' : Hp} {S : Addr → Prop} {ob : Nat → Option Addr} {d : List D} {v : List V} (h : Reps W H S ob d v) (s : Same H H') : Reps W H' S ob d v := Reps.mono (Kp.same s) d v h
theorem Rep.wide {W : Wd} {H : Hp} {L : Lc} {B B' : List Nat} {ob : Nat → Option Addr} {d : D} {v : V} (h : Rep W H (Fr L B) ob d v) (s : ∀ i ∈ B, i ∈ B') : Rep W H (Fr L B') ob d v := Rep.mono (Kp.sub fun a u f _ => Fr.mono s f) d v h
theorem Reps.wide {W : Wd} {H : Hp} {L : Lc} {B B' : List Nat} {ob : Nat → Option Addr} {d : List D} {v : List V} (h : Reps W H (Fr L B) ob d v) (s : ∀ i ∈ B, i ∈ B') : Reps W H (Fr L B') ob d v := Reps.mono (Kp.sub fun a u f _ => Fr.mono s f) d v h
theorem RepK.wide {W : Wd} {H : Hp} {L : Lc} {B B' : List Nat} {ob : Nat → Option Addr} {d : List (Key × D)} {v : List (Key × V)} (h : RepK W H (Fr L B) ob d v) (s : ∀ i ∈ B, i ∈ B') : RepK W H (Fr L B') ob d v := RepK.mono (Kp.sub fun a u f _ => Fr.mono s f) d v h
theorem RepT.wide {W : Wd} {H : Hp} {L : Lc} {B B' : List Nat} {ob : Nat → Option Addr} {d : List (List Key × D)} {v : List (List Key × V)} (h : RepT W H (Fr L B) ob d v) (s : ∀ i ∈ B, i ∈ B') : RepT W H (Fr L B') ob d v := RepT.mono (Kp.sub fun a u f _ => Fr.mono s f) d v h
theorem nilsub {B : List Nat} : ∀ i ∈ ([] : List Nat), i ∈ B := fun _ h => by cases h
theorem subl {A B : List Nat} : ∀ i ∈ A, i ∈ A ++ B := fun _ h => List.mem_append_left _ h
theorem subr {A B : List Nat} : ∀ i ∈ B, i ∈ A ++ B := fun _ h => List.mem_append_right _ h
theorem subid {A : List Nat} : ∀ i ∈ A, i ∈ A := fun _ h => h

/-- results that are no objects -/
def D.flat : D → Bool
  | .non => true
  | .bl _ => true
  | .int _ => true
  | .str _ => true
  | _ => false
theorem Leaf.ret {W : Wd} {Wx : WX} {L : Lc} {B : List Nat} {σ : L2.St} {H : Hp} {Q : VK} {d : D} {v : V} (h : Leaf W Wx L B σ H Q (.ok d)) (r : Rep W H (Fr L B) (obs L) d v) : Q v H := h v H (Same.refl H) r
theorem Leaf.ret' {W : Wd} {Wx : WX} {L : Lc} {B : List Nat} {σ : L2.St} {H H' : Hp} {Q : VK} {d : D} {v : V} (h : Leaf W Wx L B σ H Q (.ok d)) (s : Same H H') (r : Rep W H' (Fr L B) (obs L) d v) : Q v H' := h v H' s r

/-- a representation whose outermost container may be anybody's -/
def RepU (W : Wd) (H : Hp) (S : Addr → Prop) (ob : Nat → Option Addr) : D → V → Prop
  | .lst xs, v => ∃ a vs, v = .ref a ∧ H a = some (.lst vs) ∧ Reps W H S ob xs vs
  | .dK kvs, v => ∃ a vs, v = .ref a ∧ Rd H a (.dK vs) ∧ RepK W H S ob kvs vs
  | .dT kvs, v => ∃ a vs, v = .ref a ∧ Rd H a (.dT vs) ∧ RepT W H S ob kvs vs
  | d, v => Rep W H S ob d v
theorem Rep.u {W : Wd} {H : Hp} {S : Addr → Prop} {ob : Nat → Option Addr} : ∀ {d : D} {v : V}, Rep W H S ob d v → RepU W H S ob d v
  | .lst xs, v, ⟨a, vs, e, s, h, q⟩ => ⟨a, vs, e, h, q⟩
  | .dK xs, v, ⟨a, vs, e, s, h, q⟩ => ⟨a, vs, e, h, q⟩
  | .dT xs, v, ⟨a, vs, e, s, h, q⟩ => ⟨a, vs, e, h, q⟩
  | .non, _, h | .bl _, _, h | .int _, _, h | .str _, _, h | .tup _, _, h | .ctup _, _, h | .ins _ _, _, h | .obj _, _, h => h
theorem Rd.same {H H' : Hp} {a : Addr} {u : HO} (h : Rd H a u) (s : Same H H') : Rd H' a u := by
  rcases h with h | ⟨o, h⟩
  · exact .inl (s a _ h)
  · exact .inr ⟨o, s a _ h⟩
theorem RepU.same {W : Wd} {H H' : Hp} {S : Addr → Prop} {ob : Nat → Option Addr} : ∀ {d : D} {v : V}, RepU W H S ob d v → Same H H' → RepU W H' S ob d v
  | .lst xs, v, ⟨a, vs, e, h, q⟩, s => ⟨a, vs, e, s _ _ h, Reps.same q s⟩
  | .dK xs, v, ⟨a, vs, e, h, q⟩, s => ⟨a, vs, e, Rd.same h s, RepK.mono (Kp.same s) _ _ q⟩
  | .dT xs, v, ⟨a, vs, e, h, q⟩, s => ⟨a, vs, e, Rd.same h s, RepT.mono (Kp.same s) _ _ q⟩
  | .non, _, h, s | .bl _, _, h, s | .int _, _, h, s | .str _, _, h, s | .tup _, _, h, s | .ctup _, _, h, s | .ins _ _, _, h, s | .obj _, _, h, s => Rep.same h s
theorem RepU.wide {W : Wd} {H : Hp} {L : Lc} {B B' : List Nat} {ob : Nat → Option Addr} : ∀ {d : D} {v : V}, RepU W H (Fr L B) ob d v → (∀ i ∈ B, i ∈ B') → RepU W H (Fr L B') ob d v
  | .lst xs, v, ⟨a, vs, e, h, q⟩, s => ⟨a, vs, e, h, q.wide s⟩
  | .dK xs, v, ⟨a, vs, e, h, q⟩, s => ⟨a, vs, e, h, q.wide s⟩
  | .dT xs, v, ⟨a, vs, e, h, q⟩, s => ⟨a, vs, e, h, q.wide s⟩
  | .non, _, h, s | .bl _, _, h, s | .int _, _, h, s | .str _, _, h, s | .tup _, _, h, s | .ctup _, _, h, s | .ins _ _, _, h, s | .obj _, _, h, s => Rep.wide h s
def LeafU (W : Wd) (Wx : WX) (L : Lc) (B : List Nat) (σ : L2.St) (H : Hp) (Q : VK) : Res D → Prop
  | .stuck => False
  | .ok d => ∀ v H', Same H H' → RepU W H' (Fr L B) (obs L) d v → Q v H'
  | .err e => ∀ cls dd H', Same H H' → Exc W H' e cls dd → Wx cls dd σ H'
def tU (W : Wd) (Wx : WX) (B : List Nat) (m : M) : TE := fun σ H Q => ∃ F ρ ω L, Rel W F ρ ω L σ H ∧ LeafU W Wx L B σ H Q (m ρ ω)
structure DU (X : Cx) (Wx : WX) (B : List Nat) (e : Expr) (m : M) : Prop where
  pe : PE X e (tU (wd X) Wx B m)
theorem DP.u {X : Cx} {Wx : WX} {B : List Nat} {e : Expr} {m : M} (h : DP X Wx B e m) : DU X Wx B e m := ⟨PE.weak h.pe fun σ H Q ⟨F, ρ, ω, L, R, h⟩ => ⟨F, ρ, ω, L, R, by
  cases z : m ρ ω with
  | stuck => rw [z] at h; exact h
  | err x => rw [z] at h; exact h
  | ok x => rw [z] at h; exact fun v H1 s r => h v H1 s r.u⟩⟩
section
variable {X : Cx} {Wx : WX} {pos : Pos}
/-- one part -/
@[simp] def m1 (ma : M) (g : D → Res D) : M := fun ρ ω => (ma ρ ω).bind g
@[simp] def m2 (ma mb : M) (g : D → D → Res D) : M := fun ρ ω => (ma ρ ω).bind fun x => (mb ρ ω).bind fun y => g x y
theorem part1 {W : Wd} {F : Fm} {ρ : Env'} {ω : Store} {L : Lc} {σ : L2.St} {H : Hp} {Q : VK} {B Ba : List Nat} {ma : M} {k : D → Res D} (hB : ∀ i ∈ Ba, i ∈ B) (R : Rel W F ρ ω L σ H) (h : Leaf W Wx L B σ H Q ((ma ρ ω).bind k)) {P : VK}
    (hP : ∀ v H1 x, Same H H1 → Rel W F ρ ω L σ H1 → RepU W H1 (Fr L B) (obs L) x v → Leaf W Wx L B σ H1 Q (k x) → P v H1) : tU W Wx Ba ma σ H P := by
  refine ⟨F, ρ, ω, L, R, ?_⟩
  cases e : ma ρ ω with
  | stuck => rw [e] at h; exact h
  | err x => rw [e] at h; exact h
  | ok x =>
    rw [e] at h
    exact fun v H1 s r => hP v H1 x s (R.same s) (r.wide hB) (h.to s subid fun _ _ q => q)
theorem part2 {W : Wd} {F : Fm} {ρ : Env'} {ω : Store} {L : Lc} {σ : L2.St} {H : Hp} {Q : VK} {B Ba Bb : List Nat} {ma mb : M} {k : D → D → Res D} (hA : ∀ i ∈ Ba, i ∈ B) (hB : ∀ i ∈ Bb, i ∈ B) (R : Rel W F ρ ω L σ H) (h : Leaf W Wx L B σ H Q (m2 ma mb k ρ ω)) {P : V → V → Hp → Prop}
    (hP : ∀ v w H1 x y, Same H H1 → Rel W F ρ ω L σ H1 → RepU W H1 (Fr L B) (obs L) x v → RepU W H1 (Fr L B) (obs L) y w → Leaf W Wx L B σ H1 Q (k x y) → P v w H1) : tU W Wx Ba ma σ H (fun v H1 => tU W Wx Bb mb σ H1 (fun w H2 => P v w H2)) := by
  refine part1 (k := fun x => (mb ρ ω).bind fun y => k x y) hA R h fun v H1 x s1 R1 r1 l1 => ?_
  exact part1 hB R1 l1 fun w H2 y s2 R2 r2 l2 => hP v w H2 x y (s1.trans s2) R2 (r1.same s2) r2 l2
/-- an operator by values -/
def LfOp (W : Wd) (g : D → D → Res D) (r : R2) : Prop := ∀ (Wx : WX) (L : Lc) (B : List Nat) (σ : L2.St) (H : Hp) (Q : VK) (x y : D) (v w : V), Al L H → RepU W H (Fr L B) (obs L) x v → RepU W H (Fr L B) (obs L) y w → Leaf W Wx L B σ H Q (g x y) → r v w H Q
theorem LfOp.or1 {W : Wd} {g : D → D → Res D} {r r' : R2} (h : LfOp W g r) : LfOp W g (fun x y H Q => r x y H Q ∨ r' x y H Q) := fun Wx L B σ H Q x y v w a p q l => .inl (h Wx L B σ H Q x y v w a p q l)
theorem d_bin {op : Operator} {a b : Expr} {Ba Bb : List Nat} {ma mb : M} {g : D → D → Res D} {r : R2} (ho : OpR X (binaryOp op) r) (hl : LfOp (wd X) g r) (ha : DU X Wx Ba a ma) (hb : DU X Wx Bb b mb) : DP X Wx (Ba ++ Bb) (.BinOp a op b pos) (m2 ma mb g) :=
  ⟨PE.weak (pe_op ho ha.pe hb.pe) fun σ H Q ⟨F, ρ, ω, L, R, h⟩ => part2 subl subr R h fun v w H1 x y s R1 p q l => hl Wx L _ σ H1 Q x y v w R1.al p q l⟩
theorem d_cmp {op : CmpOp} {a b : Expr} {Ba Bb : List Nat} {ma mb : M} {g : D → D → Res D} {r : R2} (ho : OpR X (compareOp op) r) (hl : LfOp (wd X) g r) (hm : behindInMarks op b = false) (ha : DU X Wx Ba a ma) (hb : DU X Wx Bb b mb) : DP X Wx (Ba ++ Bb) (.Compare a [op] [b] pos) (m2 ma mb g) :=
  ⟨PE.weak (pe_cmpR ho ha.pe hb.pe hm) fun σ H Q ⟨F, ρ, ω, L, R, h⟩ => part2 subl subr R h fun v w H1 x y s R1 p q l => hl Wx L _ σ H1 Q x y v w R1.al p q l⟩
/-- a comparison as a test -/
@[simp] def b2 (ma mb : M) (g : D → D → Res D) : Env' → Store → Res Bool := fun ρ ω => (ma ρ ω).bind fun x => (mb ρ ω).bind fun y => (g x y).bind fun z => match z with | .bl k => .ok k | _ => .stuck
theorem leaf_b {W : Wd} {L : Lc} {B : List Nat} {σ : L2.St} {H : Hp} {Q : Bool → Hp → Prop} {r : Res D} (h : LeafB W Wx L σ H Q (r.bind fun z => match z with | .bl k => .ok k | _ => .stuck)) : Leaf W Wx L B σ H (fun x H' => ∃ k, x = .bl k ∧ Q k H') r := by
  cases r with
  | stuck => exact h
  | err e => exact h
  | ok d =>
    cases d with
    | bl k => exact fun v H' s r => ⟨k, r, h H' s⟩
    | _ => exact h.elim
theorem part2b {W : Wd} {F : Fm} {ρ : Env'} {ω : Store} {L : Lc} {σ : L2.St} {H : Hp} {Q : Bool → Hp → Prop} {B Ba Bb : List Nat} {ma mb : M} {k : D → D → Res D} (hA : ∀ i ∈ Ba, i ∈ B) (hB : ∀ i ∈ Bb, i ∈ B) (R : Rel W F ρ ω L σ H) (h : LeafB W Wx L σ H Q (b2 ma mb k ρ ω)) {P : V → V → Hp → Prop}
    (hP : ∀ v w H1 x y, Same H H1 → Rel W F ρ ω L σ H1 → RepU W H1 (Fr L B) (obs L) x v → RepU W H1 (Fr L B) (obs L) y w → Leaf W Wx L B σ H1 (fun x H' => ∃ k, x = .bl k ∧ Q k H') (k x y) → P v w H1) : tU W Wx Ba ma σ H (fun v H1 => tU W Wx Bb mb σ H1 (fun w H2 => P v w H2)) := by
  refine part2 (Q := fun x H' => ∃ k, x = .bl k ∧ Q k H') (k := k) hA hB R ?_ hP
  refine leaf_b ?_
  have e : b2 ma mb k ρ ω = (m2 ma mb k ρ ω).bind fun z => match z with | .bl k => .ok k | _ => .stuck := by
    unfold b2 m2
    cases ma ρ ω with
    | stuck => rfl
    | err e => rfl
    | ok x =>
      cases mb ρ ω with
      | stuck => rfl
      | err e => rfl
      | ok y => rfl
  rw [← e]
  exact h
theorem t_cmp {op : CmpOp} {a b : Expr} {Ba Bb : List Nat} {ma mb : M} {g : D → D → Res D} {r : R2} (ho : OpR X (compareOp op) r) (hl : LfOp (wd X) g r) (hm : behindInMarks op b = false) (ha : DU X Wx Ba a ma) (hb : DU X Wx Bb b mb) : DB X Wx (.Compare a [op] [b] pos) (b2 ma mb g) :=
  ⟨PT.weak (pt_cmpR ho ha.pe hb.pe hm) fun σ H Q ⟨F, ρ, ω, L, R, h⟩ => part2b (B := Ba ++ Bb) subl subr R h fun v w H1 x y s R1 p q l => hl Wx L _ σ H1 _ x y v w R1.al p q l⟩
/-- an expression that is True or False, as a test -/
@[simp] def bV (ma : M) : Env' → Store → Res Bool := fun ρ ω => (ma ρ ω).bind fun z => match z with | .bl k => .ok k | _ => .stuck
theorem t_val {e : Expr} {B : List Nat} {ma : M} (ha : DP X Wx B e ma) (he : ∀ whole, isTrue e X.env whole = (do let v ← whole; standAt e.pos; holding [v] (truthy v)) := by intro _; rfl) : DB X Wx e (bV ma) :=
  ⟨PT.weak (pt_val ha.pe he) fun σ H Q ⟨F, ρ, ω, L, R, h⟩ => ⟨F, ρ, ω, L, R, leaf_b h⟩⟩
/-! ### names, constants -/
@[simp] def mV (i : Nat) : M := fun ρ _ => match ρ[i]? with
  | some (.val d) => .ok d
  | some (.own d) => .ok d
  | _ => .stuck
theorem Rel.own_rep {W : Wd} {F : Fm} {ρ : Env'} {ω : Store} {L : Lc} {σ : L2.St} {H : Hp} (R : Rel W F ρ ω L σ H) {i : Nat} {ex : Bool} : ∀ {d : D} {a : Addr}, L (.sl i) = some a → RepO W H (Fr L []) (obs L) ex d a → Rep W H (Fr L [i]) (obs L) d (.ref a) := by
  intro d a e h
  have f : Fr L [i] a := fun p q => ⟨i, List.mem_singleton.mpr rfl, R.inj p (.sl i) a q e⟩
  cases d with
  | lst xs =>
    obtain ⟨vs, h, q⟩ := h
    exact ⟨a, vs, rfl, f, h, Reps.wide q nilsub⟩
  | dK xs =>
    obtain ⟨vs, h, q⟩ := h
    exact ⟨a, vs, rfl, f, h.rd, RepK.wide q nilsub⟩
  | dT xs =>
    obtain ⟨vs, h, q⟩ := h
    exact ⟨a, vs, rfl, f, h.rd, RepT.wide q nilsub⟩
  | _ => exact h.elim
theorem d_var (i : Nat) {x : Str} (hN : X.N[i]? = some x := by rfl) (hv : Vis X.env.scope x := by first | exact Or.inl rfl | exact Or.inr (Or.inl rfl) | exact Or.inr (Or.inr rfl)) (hd : (x == ("__debug__" : Str)) = false := by decide)
    (hcd : (x == ("__classdict__" : Str)) = false := by decide) : DP X Wx [i] (.Name x pos) (mV i) :=
  ⟨PE.weak (pe_var (i := i) hN hv hd hcd) fun σ H Q ⟨F, ρ, ω, L, R, h⟩ => by
    unfold mV at h
    cases e : ρ[i]? with
    | none => rw [e] at h; exact h.elim
    | some s =>
      rw [e] at h
      have q := R.sl i s e
      cases s with
      | no => exact h.elim
      | val d =>
        obtain ⟨x, e1, r⟩ := q
        have e2 : σ[i]? = some (some x) := by
          cases z : σ[i]? with
          | none => rw [z] at e1; cases e1
          | some y => rw [z] at e1; exact congrArg some e1
        exact ⟨x, e2, h.ret (r.wide nilsub)⟩
      | own d =>
        obtain ⟨a, e1, l, r⟩ := q
        have e2 : σ[i]? = some (some (.ref a)) := by
          cases z : σ[i]? with
          | none => rw [z] at e1; cases e1
          | some y => rw [z] at e1; exact congrArg some e1
        exact ⟨.ref a, e2, h.ret (R.own_rep l r)⟩⟩
theorem u_var (i : Nat) {x : Str} (hN : X.N[i]? = some x := by rfl) (hv : Vis X.env.scope x := by first | exact Or.inl rfl | exact Or.inr (Or.inl rfl) | exact Or.inr (Or.inr rfl)) (hd : (x == ("__debug__" : Str)) = false := by decide)
    (hcd : (x == ("__classdict__" : Str)) = false := by decide) : DU X Wx [] (.Name x pos) (mV i) :=
  ⟨PE.weak (pe_var (i := i) hN hv hd hcd) fun σ H Q ⟨F, ρ, ω, L, R, h⟩ => by
    unfold mV at h
    cases e : ρ[i]? with
    | none => rw [e] at h; exact h.elim
    | some s =>
      rw [e] at h
      have q := R.sl i s e
      cases s with
      | no => exact h.elim
      | val d =>
        obtain ⟨x, e1, r⟩ := q
        have e2 : σ[i]? = some (some x) := by
          cases z : σ[i]? with
          | none => rw [z] at e1; cases e1
          | some y => rw [z] at e1; exact congrArg some e1
        exact ⟨x, e2, h x H (Same.refl H) r.u⟩
      | own d =>
        obtain ⟨a, e1, l, r⟩ := q
        have e2 : σ[i]? = some (some (.ref a)) := by
          cases z : σ[i]? with
          | none => rw [z] at e1; cases e1
          | some y => rw [z] at e1; exact congrArg some e1
        refine ⟨.ref a, e2, h _ H (Same.refl H) ?_⟩
        cases d with
        | lst xs =>
          obtain ⟨vs, h, q⟩ := r
          exact ⟨a, vs, rfl, h, q⟩
        | dK xs =>
          obtain ⟨vs, h, q⟩ := r
          exact ⟨a, vs, rfl, h.rd, q⟩
        | dT xs =>
          obtain ⟨vs, h, q⟩ := r
          exact ⟨a, vs, rfl, h.rd, q⟩
        | _ => exact r.elim⟩
@[simp] def mC (d : D) : M := fun _ _ => .ok d
theorem d_const {e : Expr} {v : V} {d : D} (h : PE X e (tC v)) (r : ∀ (H : Hp) (S : Addr → Prop) (ob : Nat → Option Addr), Rep (wd X) H S ob d v) : DP X Wx [] e (mC d) :=
  ⟨PE.weak h fun σ H Q ⟨F, ρ, ω, L, R, h⟩ => h.ret (r H _ _)⟩
theorem d_int {i j} : DP X Wx [] (.Constant (.int i) j pos) (mC (.int i)) := d_const pe_int fun _ _ _ => rfl
theorem d_bl {i j} : DP X Wx [] (.Constant (.bool i) j pos) (mC (.bl i)) := d_const pe_bl fun _ _ _ => rfl
theorem d_str {i j} : DP X Wx [] (.Constant (.str i) j pos) (mC (.str i)) := d_const pe_str fun _ _ _ => rfl
theorem d_non {j} : DP X Wx [] (.Constant .none j pos) (mC .non) := d_const pe_non fun _ _ _ => rfl
theorem d_globI {x : Str} {i : Int} (hg : Gl X x) (hm : ∃ t, X.mg x = some (.int i t)) (hd : (x == ("__debug__" : Str)) = false := by decide) : DP X Wx [] (.Name x pos) (mC (.int i)) := by
  obtain ⟨t, hm⟩ := hm
  exact d_const (pe_glob (v := .int i) hg hm ⟨t, rfl⟩ hd) fun _ _ _ => rfl
theorem d_globS {x : Str} {i : Str} (hg : Gl X x) (hm : ∃ t, X.mg x = some (.str i t)) (hd : (x == ("__debug__" : Str)) = false := by decide) : DP X Wx [] (.Name x pos) (mC (.str i)) := by
  obtain ⟨t, hm⟩ := hm
  exact d_const (pe_glob (v := .str i) hg hm ⟨t, rfl⟩ hd) fun _ _ _ => rfl
end
end DL
namespace DL
open PySem PySem.Spec PyProof.Rows L2

/-! ### operators on values -/
noncomputable def gAdd : D → D → Res D
  | .int i, .int j => .ok (.int (i + j))
  | .str i, .str j => @ite _ (i.length + j.length ≤ 16777216) (Classical.propDecidable _) (.ok (.str (i ++ j))) .stuck
  | .lst xs, .lst ys => @ite _ (xs.length + ys.length ≤ 16777216) (Classical.propDecidable _) (.ok (.lst (xs ++ ys))) .stuck
  | .tup xs, .tup ys => @ite _ (xs.length + ys.length ≤ 16777216 ∧ xs ≠ [] ∧ ys ≠ []) (Classical.propDecidable _) (.ok (.tup (xs ++ ys))) .stuck
  | _, _ => .stuck
abbrev rAdd4 (K : PySem.W.Frag) : R2 := fun x y H Q => (rI0 fun i j => .int (i + j)) x y H Q ∨ ((∃ i j, x = .str i ∧ y = .str j ∧ i.length + j.length ≤ sizeLine ∧ Q (.str (i ++ j)) H) ∨ (rCat x y H Q ∨ rCatT K x y H Q))
theorem op_add4 {X : Cx} : OpR X (binaryOp .Add) (rAdd4 X.K) := op_add.or (op_add_str.or (op_cat.or op_catT))
theorem lf_add {W : Wd} : LfOp W gAdd (rAdd4 W.K) := by
  intro Wx L B σ H Q x y v w al p q l
  unfold gAdd at l
  split at l
  · exact .inl ⟨_, _, p, q, l.ret rfl⟩
  · split at l
    · rename_i h
      exact .inr (.inl ⟨_, _, p, q, by rw [sizeLine_eq]; exact h, l.ret rfl⟩)
    · exact l.elim
  · split at l
    · rename_i h
      obtain ⟨a, vs, e1, h1, r1⟩ := p
      obtain ⟨b, ws, e2, h2, r2⟩ := q
      refine .inr (.inr (.inl ⟨a, b, vs, ws, e1, e2, h1, h2, by rw [sizeLine_eq, r1.len, r2.len]; exact h, fun z hz => ?_⟩))
      have sm := same_upd (o := .lst (vs ++ ws)) hz
      exact l.ret' sm ⟨z, vs ++ ws, rfl, al.fr hz B, upd_same, Reps.app (r1.same sm) (r2.same sm)⟩
    · exact l.elim
  · split at l
    · rename_i h
      obtain ⟨h0, hx, hy⟩ := h
      obtain ⟨a, vs, e1, h1, r1⟩ := p
      obtain ⟨b, ws, e2, h2, r2⟩ := q
      have nv : vs ≠ [] := fun z => hx (List.eq_nil_of_length_eq_zero (by rw [← r1.len, z]; rfl))
      have nw : ws ≠ [] := fun z => hy (List.eq_nil_of_length_eq_zero (by rw [← r2.len, z]; rfl))
      refine .inr (.inr (.inr ⟨a, b, vs, ws, e1, e2, .of h1, .of h2, nv, by rw [sizeLine_eq, r1.len, r2.len]; exact h0, fun z => absurd z nw, fun _ z hz => ?_⟩))
      have sm := same_upd (o := .tup (vs ++ ws)) hz
      exact l.ret' sm ⟨z, vs ++ ws, rfl, upd_same, Reps.app (r1.same sm) (r2.same sm)⟩
    · exact l.elim
  · exact l.elim
@[simp] def gSub : D → D → Res D
  | .int i, .int j => .ok (.int (i - j))
  | _, _ => .stuck
theorem lf_sub {W : Wd} : LfOp W gSub (rI0 fun i j => .int (i - j)) := by
  intro Wx L B σ H Q x y v w al p q l
  unfold gSub at l
  split at l
  · exact ⟨_, _, p, q, l.ret rfl⟩
  · exact l.elim
/-- text times number -/
def repS (x : Str) (n : Nat) : Str := ⟨(List.replicate n x.cps).foldl (· ++ ·) #[]⟩
abbrev rMulS : R2 := fun x y H Q => ∃ (i : Str) (n : Int), x = .str i ∧ y = .int n ∧ 0 ≤ n ∧ n ≤ 1000 ∧ i.length ≤ 1000 ∧ Q (.str (repS i n.toNat)) H
theorem foldl_app {α : Type} (a : Array α) : ∀ n : Nat, ((List.replicate n a).foldl (· ++ ·) #[]).size = n * a.size := by
  have key : ∀ (n : Nat) (acc : Array α), ((List.replicate n a).foldl (· ++ ·) acc).size = acc.size + n * a.size := by
    intro n
    induction n with
    | zero => intro acc; simp
    | succ n ih =>
      intro acc
      rw [List.replicate_succ, List.foldl_cons, ih, Array.size_append, Nat.succ_mul]
      omega
  intro n
  rw [key]; simp
theorem op_mulS {X : Cx} : OpR X (binaryOp .Mult) rMulS := by
  intro pins s σ H x y v u Q I rx ry h
  obtain ⟨i, n, rfl, rfl, h0, h1, h2, q⟩ := h
  obtain ⟨t, rfl⟩ := rx
  obtain ⟨t', rfl⟩ := ry
  have h3 : n.toNat ≤ 1000 := by omega
  have h4 : i.length * n.toNat ≤ 1000 * 1000 := Nat.mul_le_mul h2 h3
  refine PySem.P.mul_str (by
    rw [decide_eq_false (show ¬ n < -(2 ^ 63 : Int) by omega), decide_eq_false (show ¬ n ≥ 2 ^ 63 by omega)]; rfl) (fun g1 _ => ?_) (fun _ _ => ?_) ?_
  · have g2 : (2 ^ 63 - 1) / n ≥ (2 ^ 63 - 1) / 1000 := by
      have : (1:Int) ≤ n := by omega
      rw [ge_iff_le]
      refine (Int.le_ediv_iff_mul_le (by omega)).mpr ?_
      have e : ((2 ^ 63 - 1) / 1000 : Int) = 9223372036854775 := by decide
      rw [e]
      have : (9223372036854775 : Int) * n ≤ 9223372036854775 * 1000 := Int.mul_le_mul_of_nonneg_left h1 (by decide)
      omega
    have e : ((2 ^ 63 - 1) / 1000 : Int) = 9223372036854775 := by decide
    omega
  · unfold Builtin.Str.tooLong
    first
      | exact decide_eq_false (by rw [sizeLine_eq]; omega)
      | simp [sizeLine_eq] <;> omega
  · by_cases g1 : n < 1
    · rw [if_pos g1]
      have e : n = 0 := by omega
      subst e
      refine ⟨by decide, .str Str.empty, H, I.tok _, ⟨_, rfl⟩, ?_⟩
      exact q
    · rw [if_neg g1]
      by_cases g2 : (n == 1 || i.length == 0) = true
      · rw [if_pos g2]
        refine ⟨.str i, H, I, ⟨_, rfl⟩, ?_⟩
        have e : repS i n.toNat = i := by
          rcases Bool.or_eq_true_iff.mp g2 with z | z
          · have : n = 1 := by simpa using z
            subst this
            show Str.mk (#[] ++ i.cps) = i
            simp
          · have z : i.length = 0 := by simpa using z
            have z1 : i.cps.size = 0 := z
            have z2 : i.cps = #[] := Array.eq_empty_of_size_eq_zero z1
            show Str.mk _ = i
            have z3 : (List.replicate n.toNat i.cps).foldl (· ++ ·) #[] = #[] := Array.eq_empty_of_size_eq_zero (by rw [foldl_app, z1, Nat.mul_zero])
            rw [z3, ← z2]
        rw [e] at q
        exact q
      · rw [if_neg g2]
        refine ⟨?_, .str (repS i n.toNat), H, I.tok _, ⟨_, rfl⟩, q⟩
        show (_ : Array Nat).size ≤ _
        rw [foldl_app]
        have e : i.cps.size = i.length := rfl
        rw [e, Nat.mul_comm]
        exact Nat.le_trans h4 (by decide)
end DL
namespace DL
open PySem PySem.Spec PyProof.Rows L2

/-! ### more operators -/
noncomputable def gMul : D → D → Res D
  | .int i, .int j => @ite _ (((-(18446744073709551616) < i ∧ i < 18446744073709551616) ∨ (-(18446744073709551616) < j ∧ j < 18446744073709551616))) (Classical.propDecidable _) (.ok (.int (i * j))) .stuck
  | .str i, .int n => if 0 ≤ n ∧ n ≤ 1000 ∧ i.length ≤ 1000 then .ok (.str (repS i n.toNat)) else .stuck
  | .lst xs, .int n => if 0 ≤ n ∧ n ≤ 1000 ∧ xs.length ≤ 1000 then .ok (.lst (List.replicate n.toNat xs).flatten) else .stuck
  | _, _ => .stuck
abbrev rMul3 : R2 := fun x y H Q => (rI CMul fun i j => .int (i * j)) x y H Q ∨ (rMulS x y H Q ∨ rRep x y H Q)
theorem op_mul3 {X : Cx} : OpR X (binaryOp .Mult) rMul3 := op_mul.or (op_mulS.or op_rep)
theorem reps_rep {W : Wd} {H : Hp} {S : Addr → Prop} {ob : Nat → Option Addr} {xs : List D} {vs : List V} (h : Reps W H S ob xs vs) : ∀ n : Nat, Reps W H S ob (List.replicate n xs).flatten (List.replicate n vs).flatten
  | 0 => Reps.nil
  | n + 1 => by
    rw [List.replicate_succ, List.replicate_succ, List.flatten_cons, List.flatten_cons]
    exact Reps.app h (reps_rep h n)
theorem lf_mul {W : Wd} : LfOp W gMul rMul3 := by
  intro Wx L B σ H Q x y v w al p q l
  unfold gMul at l
  split at l
  · split at l
    · rename_i h
      refine .inl ⟨_, _, p, q, ?_, l.ret rfl⟩
      rcases h with ⟨a, b⟩ | ⟨a, b⟩
      · exact .inl ⟨by omega, by omega⟩
      · exact .inr ⟨by omega, by omega⟩
    · exact l.elim
  · split at l
    · rename_i h
      exact .inr (.inl ⟨_, _, p, q, h.1, h.2.1, h.2.2, l.ret rfl⟩)
    · exact l.elim
  · split at l
    · rename_i xs n h
      obtain ⟨a, vs, e1, h1, r1⟩ := p
      refine .inr (.inr ⟨a, n, vs, e1, q, h1, by omega, by omega, ?_, ?_⟩)
      · rw [sizeLine_eq, r1.len]
        have : xs.length * n.toNat ≤ 1000 * 1000 := Nat.mul_le_mul h.2.2 (by omega)
        omega
      · intro z hz
        have sm := same_upd (o := .lst (List.replicate n.toNat vs).flatten) hz
        exact l.ret' sm ⟨z, _, rfl, al.fr hz B, upd_same, reps_rep (r1.same sm) _⟩
    · exact l.elim
  · exact l.elim
@[simp] def gMod : D → D → Res D
  | .int i, .int j => if 0 < j then .ok (.int (i % j)) else .stuck
  | _, _ => .stuck
theorem lf_mod {W : Wd} : LfOp W gMod (rI (fun _ j => 0 < j) fun i j => .int (i % j)) := by
  intro Wx L B σ H Q x y v w al p q l
  unfold gMod at l
  split at l
  · split at l
    · rename_i h
      exact ⟨_, _, p, q, h, l.ret rfl⟩
    · exact l.elim
  · exact l.elim
noncomputable def gDiv : D → D → Res D
  | .int i, .int j => @ite _ (0 < j ∧ j < 1073741824) (Classical.propDecidable _) (.ok (.int (i / j))) .stuck
  | _, _ => .stuck
theorem lf_div {W : Wd} : LfOp W gDiv (rI CDiv fun i j => .int (i / j)) := by
  intro Wx L B σ H Q x y v w al p q l
  unfold gDiv at l
  split at l
  · split at l
    · rename_i h
      exact ⟨_, _, p, q, h, l.ret rfl⟩
    · exact l.elim
  · exact l.elim
noncomputable def gPow : D → D → Res D
  | .int i, .int j => @ite _ (0 ≤ j ∧ j ≤ 1000000 ∧ i.natAbs < 18446744073709551616) (Classical.propDecidable _) (.ok (.int (i ^ j.toNat))) .stuck
  | _, _ => .stuck
theorem lf_pow {W : Wd} : LfOp W gPow (rI CPow fun i j => .int (i ^ j.toNat)) := by
  intro Wx L B σ H Q x y v w al p q l
  unfold gPow at l
  split at l
  · split at l
    · rename_i h
      exact ⟨_, _, p, q, ⟨h.1, h.2.1, by have := h.2.2; omega⟩, l.ret rfl⟩
    · exact l.elim
  · exact l.elim
section
variable {X : Cx} {Wx : WX} {pos : Pos} {a b : Expr} {Ba Bb : List Nat} {ma mb : M}
theorem d_add (ha : DU X Wx Ba a ma) (hb : DU X Wx Bb b mb) : DP X Wx (Ba ++ Bb) (.BinOp a .Add b pos) (m2 ma mb gAdd) := d_bin op_add4 lf_add ha hb
theorem d_sub (ha : DU X Wx Ba a ma) (hb : DU X Wx Bb b mb) : DP X Wx (Ba ++ Bb) (.BinOp a .Sub b pos) (m2 ma mb gSub) := d_bin op_sub lf_sub ha hb
theorem d_mul (ha : DU X Wx Ba a ma) (hb : DU X Wx Bb b mb) : DP X Wx (Ba ++ Bb) (.BinOp a .Mult b pos) (m2 ma mb gMul) := d_bin op_mul3 lf_mul ha hb
theorem d_mod (ha : DU X Wx Ba a ma) (hb : DU X Wx Bb b mb) : DP X Wx (Ba ++ Bb) (.BinOp a .Mod b pos) (m2 ma mb gMod) := d_bin op_mod lf_mod ha hb
theorem d_fdiv (ha : DU X Wx Ba a ma) (hb : DU X Wx Bb b mb) : DP X Wx (Ba ++ Bb) (.BinOp a .FloorDiv b pos) (m2 ma mb gDiv) := d_bin op_fdiv lf_div ha hb
theorem d_pow (ha : DU X Wx Ba a ma) (hb : DU X Wx Bb b mb) : DP X Wx (Ba ++ Bb) (.BinOp a .Pow b pos) (m2 ma mb gPow) := d_bin op_pow lf_pow ha hb
@[simp] def gNeg : D → Res D
  | .int i => .ok (.int (-i))
  | _ => .stuck
theorem d_neg (ha : DU X Wx Ba a ma) : DP X Wx Ba (.UnaryOp .USub a pos) (m1 ma gNeg) :=
  ⟨PE.weak (pe_un un_neg ha.pe) fun σ H Q ⟨F, ρ, ω, L, R, h⟩ => part1 subid R h fun v H1 x s R1 p l => by
    unfold gNeg at l
    split at l
    · exact ⟨_, p, l.ret rfl⟩
    · exact l.elim⟩
end

/-! ### comparisons of ints -/
@[simp] def gInt (f : Int → Int → Bool) : D → D → Res D
  | .int i, .int j => .ok (.bl (f i j))
  | _, _ => .stuck
theorem lf_int {W : Wd} {f : Int → Int → Bool} : LfOp W (gInt f) (rI0 fun i j => .bl (f i j)) := by
  intro Wx L B σ H Q x y v w al p q l
  unfold gInt at l
  split at l
  · exact ⟨_, _, p, q, l.ret rfl⟩
  · exact l.elim
abbrev gLt := gInt fun i j => decide (i < j)
abbrev gLe := gInt fun i j => decide (i ≤ j)
abbrev gGt := gInt fun i j => decide (j < i)
abbrev gGe := gInt fun i j => decide (j ≤ i)
/-! ### == -/
mutual
def D.py : D → Option PyData
  | .non => some .none
  | .bl b => some (.bool b)
  | .int i => some (.int i)
  | .str s => some (.str s)
  | .lst xs => (D.pys xs).map .list
  | .tup xs => (D.pys xs).map .tuple
  | .ctup xs => none
  | .dK _ => none
  | .dT _ => none
  | .ins _ _ => none
  | .obj _ => none
def D.pys : List D → Option (List PyData)
  | [] => some []
  | d :: r => match D.py d with
    | none => none
    | some x => match D.pys r with
      | none => none
      | some y => some (x :: y)
end
section
variable {W : Wd} {H : Hp} {S : Addr → Prop} {ob : Nat → Option Addr}
mutual
theorem D.py_dp : ∀ (d : D) (v : V) (p : PyData), D.py d = some p → Rep W H S ob d v → Dp W.K H v p
  | .non, v, p, e, r => by cases e; rw [show v = .non from r]; exact .non
  | .bl b, v, p, e, r => by cases e; rw [show v = .bl b from r]; exact .bl b
  | .int i, v, p, e, r => by cases e; rw [show v = .int i from r]; exact .int i
  | .str i, v, p, e, r => by cases e; rw [show v = .str i from r]; exact .str i
  | .lst xs, v, p, e, r => by
    obtain ⟨a, vs, e1, s, h, q⟩ := r
    have e : (D.pys xs).map .list = some p := e
    cases z : D.pys xs with
    | none => rw [z] at e; cases e
    | some ps =>
      rw [z] at e
      have e : PyData.list ps = p := Option.some.inj e
      rw [← e, e1]
      exact .lst (.of h) (D.pys_dp xs vs ps z q)
  | .tup xs, v, p, e, r => by
    obtain ⟨a, vs, e1, h, q⟩ := r
    have e : (D.pys xs).map .tuple = some p := e
    cases z : D.pys xs with
    | none => rw [z] at e; cases e
    | some ps =>
      rw [z] at e
      have e : PyData.tuple ps = p := Option.some.inj e
      rw [← e, e1]
      exact .tup (.of h) (D.pys_dp xs vs ps z q)
  | .ctup _, _, _, e, _ | .dK _, _, _, e, _ | .dT _, _, _, e, _ | .ins _ _, _, _, e, _ | .obj _, _, _, e, _ => by cases e
theorem D.pys_dp : ∀ (d : List D) (v : List V) (p : List PyData), D.pys d = some p → Reps W H S ob d v → DpAll W.K H v p
  | [], v, p, e, r => by cases e; rw [show v = [] from r]; exact .nil
  | d :: ds, v, p, e, r => by
    obtain ⟨x, t, e1, r1, r2⟩ := r
    have e : (match D.py d with
      | none => none
      | some x => match D.pys ds with
        | none => none
        | some y => some (x :: y)) = some p := e
    cases z1 : D.py d with
    | none => rw [z1] at e; cases e
    | some a =>
      cases z2 : D.pys ds with
      | none => rw [z1, z2] at e; cases e
      | some b =>
        rw [z1, z2] at e
        have e : a :: b = p := Option.some.inj e
        rw [← e, e1]
        exact .cons (D.py_dp d x a z1 r1) (D.pys_dp ds t b z2 r2)
end
end
/-- a list against a list without items -/
abbrev rEq0 : R2 := fun x y H Q => ∃ a b vs, x = .ref a ∧ y = .ref b ∧ H a = some (.lst vs) ∧ H b = some (.lst []) ∧ Q (.bl vs.isEmpty) H
abbrev rNe0 : R2 := fun x y H Q => ∃ a b vs, x = .ref a ∧ y = .ref b ∧ H a = some (.lst vs) ∧ H b = some (.lst []) ∧ Q (.bl (!vs.isEmpty)) H
theorem op_eq0 {X : Cx} (hu : X.A.units + 64 < cLine) : OpR X (compareOp .Eq) rEq0 := by
  intro pins s σ H x y v u Q I rx ry h
  obtain ⟨a, b, vs, rfl, rfl, h1, h2, q⟩ := h
  cases rx
  cases ry
  obtain ⟨its, r, p, _⟩ := I.list (.of h1)
  obtain ⟨its2, r2, p2, _⟩ := I.list (.of h2)
  cases r2
  cases r with
  | nil =>
    refine SeqAt.eq_listAt (e := fun _ => true) p.isList p2.isList rfl (by omega) ?_ ?_
    all_goals first
      | exact ⟨.bl _, H, I, rfl, q⟩
      | (intro k hk; simp at hk)
      | (intros; simp at *)
  | @cons y0 v0 ys us ra rb =>
    exact SeqAt.eq_list_lengthsAt p.isList p2.isList (by simp) (by omega) ⟨.bl _, H, I, rfl, q⟩
end DL
namespace DL
open PySem PySem.Spec PyProof.Rows L2

def gEqS : D → D → Option Bool
  | .int i, .int j => some (decide (i = j))
  | .str i, .str j => some (decide (i = j))
  | .bl i, .bl j => some (decide (i = j))
  | .non, .non => some true
  | .non, .int _ => some false
  | .int _, .non => some false
  | .non, .str _ => some false
  | .str _, .non => some false
  | .int _, .str _ => some false
  | .str _, .int _ => some false
  | _, _ => none
def gEqD (x y : D) : Option Bool := match D.py x, D.py y with
  | some p, some q => if SeqAt.shaped p && SeqAt.shaped q then some (PyData.eqv p q) else none
  | _, _ => none
def gEqL : D → D → Option Bool
  | .lst xs, .lst [] => some xs.isEmpty
  | _, _ => none
def gEq (x y : D) : Res D := match gEqS x y with
  | some b => .ok (.bl b)
  | none => match gEqL x y with
    | some b => .ok (.bl b)
    | none => match gEqD x y with
      | some b => .ok (.bl b)
      | none => .stuck
def gNe (x y : D) : Res D := match gEqS x y with
  | some b => .ok (.bl (!b))
  | none => match gEqD x y with
      | some b => .ok (.bl (!b))
      | none => .stuck
abbrev rEq3 (K : PySem.W.Frag) : R2 := fun x y H Q => rEq x y H Q ∨ (rEq0 x y H Q ∨ rEqD K x y H Q)
abbrev rNe3 (K : PySem.W.Frag) : R2 := fun x y H Q => rNe x y H Q ∨ rNeD K x y H Q
theorem op_eq3 {X : Cx} (hu : X.A.units + 64 < cLine) : OpR X (compareOp .Eq) (rEq3 X.K) := op_eq.or ((op_eq0 hu).or (op_eqD hu))
theorem op_ne3 {X : Cx} (hu : X.A.units + 64 < cLine) : OpR X (compareOp .NotEq) (rNe3 X.K) := op_ne.or (op_neD hu)
theorem D.py_dpU {W : Wd} {H : Hp} {S : Addr → Prop} {ob : Nat → Option Addr} : ∀ (d : D) (v : V) (p : PyData), D.py d = some p → RepU W H S ob d v → Dp W.K H v p
  | .lst xs, v, p, e, r => by
    obtain ⟨a, vs, e1, h, q⟩ := r
    have e : (D.pys xs).map .list = some p := e
    cases z : D.pys xs with
    | none => rw [z] at e; cases e
    | some ps =>
      rw [z] at e
      have e : PyData.list ps = p := Option.some.inj e
      rw [← e, e1]
      exact .lst (.of h) (D.pys_dp xs vs ps z q)
  | .non, v, p, e, r | .bl _, v, p, e, r | .int _, v, p, e, r | .str _, v, p, e, r | .tup _, v, p, e, r | .ctup _, v, p, e, r | .ins _ _, v, p, e, r | .obj _, v, p, e, r => D.py_dp (S := S) (ob := ob) _ v p e r
  | .dK _, v, p, e, r | .dT _, v, p, e, r => by cases e
theorem eqS_ok {W : Wd} {H : Hp} {S : Addr → Prop} {ob : Nat → Option Addr} {x y : D} {v w : V} {b : Bool} (p : RepU W H S ob x v) (q : RepU W H S ob y w) (e : gEqS x y = some b) : scal v w = true ∧ decide (v = w) = b := by
  unfold gEqS at e
  split at e
  · cases e
    rw [show v = .int _ from p, show w = .int _ from q]
    exact ⟨rfl, by simp⟩
  · cases e
    rw [show v = .str _ from p, show w = .str _ from q]
    exact ⟨rfl, by simp⟩
  · cases e
    rw [show v = .bl _ from p, show w = .bl _ from q]
    exact ⟨rfl, by simp⟩
  · cases e
    rw [show v = .non from p, show w = .non from q]
    exact ⟨rfl, by simp⟩
  · cases e
    rw [show v = .non from p, show w = .int _ from q]
    exact ⟨rfl, by simp⟩
  · cases e
    rw [show v = .int _ from p, show w = .non from q]
    exact ⟨rfl, by simp⟩
  · cases e
    rw [show v = .non from p, show w = .str _ from q]
    exact ⟨rfl, by simp⟩
  · cases e
    rw [show v = .str _ from p, show w = .non from q]
    exact ⟨rfl, by simp⟩
  · cases e
    rw [show v = .int _ from p, show w = .str _ from q]
    exact ⟨rfl, by simp⟩
  · cases e
    rw [show v = .str _ from p, show w = .int _ from q]
    exact ⟨rfl, by simp⟩
  · cases e
theorem eqD_ok {W : Wd} {H : Hp} {S : Addr → Prop} {ob : Nat → Option Addr} {x y : D} {v w : V} {b : Bool} (p : RepU W H S ob x v) (q : RepU W H S ob y w) (e : gEqD x y = some b) :
    ∃ d f, Dp W.K H v d ∧ Dp W.K H w f ∧ SeqAt.shaped d = true ∧ SeqAt.shaped f = true ∧ PyData.eqv d f = b := by
  unfold gEqD at e
  split at e
  · rename_i d f h1 h2
    split at e
    · rename_i h3
      rw [Bool.and_eq_true] at h3
      exact ⟨d, f, D.py_dpU x v d h1 p, D.py_dpU y w f h2 q, h3.1, h3.2, Option.some.inj e⟩
    · cases e
  · cases e
theorem eqL_ok {W : Wd} {H : Hp} {S : Addr → Prop} {ob : Nat → Option Addr} {x y : D} {v w : V} {b : Bool} (p : RepU W H S ob x v) (q : RepU W H S ob y w) (e : gEqL x y = some b) :
    ∃ a c vs, v = .ref a ∧ w = .ref c ∧ H a = some (.lst vs) ∧ H c = some (.lst []) ∧ vs.isEmpty = b := by
  unfold gEqL at e
  split at e
  · cases e
    obtain ⟨a, vs, e1, h1, r1⟩ := p
    obtain ⟨c, ws, e2, h2, r2⟩ := q
    have z : ws = [] := r2
    subst z
    refine ⟨a, c, vs, e1, e2, h1, h2, ?_⟩
    have := r1.len
    rename_i xs
    cases vs with
    | nil => cases xs with
      | nil => rfl
      | cons _ _ => simp at this
    | cons _ _ => cases xs with
      | nil => simp at this
      | cons _ _ => rfl
  · cases e
theorem lf_eq {W : Wd} : LfOp W gEq (rEq3 W.K) := by
  intro Wx L B σ H Q x y v w al p q l
  unfold gEq at l
  split at l
  · rename_i b e
    obtain ⟨h1, h2⟩ := eqS_ok p q e
    exact .inl ⟨h1, by rw [h2]; exact l.ret rfl⟩
  · split at l
    · rename_i b e
      obtain ⟨a, c, vs, e1, e2, h1, h2, h3⟩ := eqL_ok p q e
      exact .inr (.inl ⟨a, c, vs, e1, e2, h1, h2, by rw [h3]; exact l.ret rfl⟩)
    · split at l
      · rename_i b e
        obtain ⟨d, f, d1, d2, s1, s2, h⟩ := eqD_ok p q e
        exact .inr (.inr ⟨d, f, d1, d2, s1, s2, by rw [h]; exact l.ret rfl⟩)
      · exact l.elim
theorem lf_ne {W : Wd} : LfOp W gNe (rNe3 W.K) := by
  intro Wx L B σ H Q x y v w al p q l
  unfold gNe at l
  split at l
  · rename_i b e
    obtain ⟨h1, h2⟩ := eqS_ok p q e
    exact .inl ⟨h1, by rw [h2]; exact l.ret rfl⟩
  · split at l
    · rename_i b e
      obtain ⟨d, f, d1, d2, s1, s2, h⟩ := eqD_ok p q e
      exact .inr ⟨d, f, d1, d2, s1, s2, by rw [h]; exact l.ret rfl⟩
    · exact l.elim

/-! ### in -/
def D.flatK : D → Option Key
  | .int i => some (.inl i)
  | .str s => some (.inr s)
  | _ => none
def D.flatKs : List D → Option (List Key)
  | [] => some []
  | d :: r => match D.flatK d, D.flatKs r with
    | some x, some y => some (x :: y)
    | _, _ => none
theorem flatK_ok {W : Wd} {H : Hp} {S : Addr → Prop} {ob : Nat → Option Addr} : ∀ {d : D} {v : V} {k : Key}, D.flatK d = some k → RepU W H S ob d v → v = kV k
  | .int i, v, k, e, r => by cases e; exact r
  | .str i, v, k, e, r => by cases e; exact r
  | .non, _, _, e, _ | .bl _, _, _, e, _ | .lst _, _, _, e, _ | .tup _, _, _, e, _ | .ctup _, _, _, e, _ | .dK _, _, _, e, _ | .dT _, _, _, e, _ | .ins _ _, _, _, e, _ | .obj _, _, _, e, _ => by cases e
theorem flatKs_ok {W : Wd} {H : Hp} {S : Addr → Prop} {ob : Nat → Option Addr} : ∀ {d : List D} {v : List V} {k : List Key}, D.flatKs d = some k → Reps W H S ob d v → v = k.map kV
  | [], v, k, e, r => by cases e; exact r
  | d :: ds, v, k, e, r => by
    obtain ⟨x, t, e1, r1, r2⟩ := r
    have e : (match D.flatK d, D.flatKs ds with
      | some x, some y => some (x :: y)
      | _, _ => none) = some k := e
    split at e
    · rename_i a b z1 z2
      cases e
      rw [e1, flatK_ok z1 r1.u, flatKs_ok z2 r2]
      rfl
    · cases e
/-- a dict's look-up by value -/
def kget {κ : Type} [DecidableEq κ] : List (κ × D) → κ → Option D
  | [], _ => none
  | p :: r, k => if p.1 = k then some p.2 else kget r k
/-- both there, or neither -/
def OptR (W : Wd) (H : Hp) (S : Addr → Prop) (ob : Nat → Option Addr) : Option D → Option V → Prop
  | some d, o => ∃ v, o = some v ∧ Rep W H S ob d v
  | none, o => o = none
theorem repK_get {W : Wd} {H : Hp} {S : Addr → Prop} {ob : Nat → Option Addr} (k : Key) : ∀ {kvs : List (Key × D)} {vs : List (Key × V)}, RepK W H S ob kvs vs →
    OptR W H S ob (kget kvs k) (valV vs k)
  | [], _, h => by rw [show _ = [] from h]; rfl
  | (x, d) :: r, _, h => by
    obtain ⟨v, t, rfl, p, q⟩ := h
    by_cases e : x = k
    · rw [show kget ((x, d) :: r) k = some d by show (if x = k then _ else _) = _; rw [if_pos e], valV_pos e]
      exact ⟨v, rfl, p⟩
    · rw [show kget ((x, d) :: r) k = kget r k by show (if x = k then _ else _) = _; rw [if_neg e]]
      have ih := repK_get k q
      rw [valV_neg e]
      exact ih
theorem repT_get {W : Wd} {H : Hp} {S : Addr → Prop} {ob : Nat → Option Addr} (k : List Key) : ∀ {kvs : List (List Key × D)} {vs : List (List Key × V)}, RepT W H S ob kvs vs →
    OptR W H S ob (kget kvs k) (valV vs k)
  | [], _, h => by rw [show _ = [] from h]; rfl
  | (x, d) :: r, _, h => by
    obtain ⟨v, t, rfl, p, q⟩ := h
    by_cases e : x = k
    · rw [show kget ((x, d) :: r) k = some d by show (if x = k then _ else _) = _; rw [if_pos e], valV_pos e]
      exact ⟨v, rfl, p⟩
    · rw [show kget ((x, d) :: r) k = kget r k by show (if x = k then _ else _) = _; rw [if_neg e]]
      have ih := repT_get k q
      rw [valV_neg e]
      exact ih
/-- what a dict holds: outer none: it is not asked so -/
def dget : D → D → Option (Option D)
  | .dK kvs, y => (D.flatK y).map (kget kvs ·)
  | .dT kvs, .tup ks => (D.flatKs ks).map (kget kvs ·)
  | _, _ => none
theorem dget_ok {W : Wd} {H : Hp} {S S' : Addr → Prop} {ob : Nat → Option Addr} {x y : D} {v w : V} {o : Option D} (p : RepU W H S ob x v) (q : RepU W H S' ob y w) (e : dget x y = some o) :
    ∃ a z, v = .ref a ∧ DGet H a w z ∧ OptR W H S ob o z := by
  unfold dget at e
  split at e
  · rename_i kvs
    obtain ⟨a, vs, e1, h1, r1⟩ := p
    cases z : D.flatK y with
    | none => rw [z] at e; cases e
    | some k =>
      rw [z] at e
      have e : kget kvs k = o := Option.some.inj e
      have g := repK_get k r1
      refine ⟨a, valV vs k, e1, .inl ⟨vs, k, h1, flatK_ok z q, rfl⟩, ?_⟩
      rw [e] at g
      exact g
  · rename_i kvs ks
    obtain ⟨a, vs, e1, h1, r1⟩ := p
    obtain ⟨b, us, e2, h2, r2⟩ := q
    cases z : D.flatKs ks with
    | none => rw [z] at e; cases e
    | some k =>
      rw [z] at e
      have e : kget kvs k = o := Option.some.inj e
      have g := repT_get k r1
      refine ⟨a, valV vs k, e1, .inr ⟨vs, k, b, h1, e2, by rw [h2, flatKs_ok z r2], rfl⟩, ?_⟩
      rw [e] at g
      exact g
  · cases e
/-- == of flat data, as in «in» -/
def eqF : D → D → Option Bool
  | .int a, .int b => some (decide (a = b))
  | .str a, .str b => some (decide (a = b))
  | .bl a, .bl b => some (decide (a = b))
  | .non, .non => some true
  | .int _, .str _ => some false
  | .str _, .int _ => some false
  | .non, .int _ => some false
  | .non, .str _ => some false
  | .int _, .non => some false
  | .str _, .non => some false
  | _, _ => none
theorem eqF_ok {W : Wd} {H : Hp} {S S' : Addr → Prop} {ob : Nat → Option Addr} {x y : D} {v w : V} {b : Bool} (p : RepU W H S ob x v) (q : RepU W H S' ob y w) (e : eqF x y = some b) : flatV v = true ∧ flatV w = true ∧ eqV v w = b := by
  unfold eqF at e
  split at e <;> cases e
  · rw [show v = .int _ from p, show w = .int _ from q]; exact ⟨rfl, rfl, by simp [eqV, Bool.beq_eq_decide_eq]⟩
  · rw [show v = .str _ from p, show w = .str _ from q]; exact ⟨rfl, rfl, by simp [eqV, Bool.beq_eq_decide_eq]⟩
  · rw [show v = .bl _ from p, show w = .bl _ from q]; exact ⟨rfl, rfl, by simp [eqV, Bool.beq_eq_decide_eq]⟩
  · rw [show v = .non from p, show w = .non from q]; exact ⟨rfl, rfl, rfl⟩
  · rw [show v = .int _ from p, show w = .str _ from q]; exact ⟨rfl, rfl, rfl⟩
  · rw [show v = .str _ from p, show w = .int _ from q]; exact ⟨rfl, rfl, rfl⟩
  · rw [show v = .non from p, show w = .int _ from q]; exact ⟨rfl, rfl, rfl⟩
  · rw [show v = .non from p, show w = .str _ from q]; exact ⟨rfl, rfl, rfl⟩
  · rw [show v = .int _ from p, show w = .non from q]; exact ⟨rfl, rfl, rfl⟩
  · rw [show v = .str _ from p, show w = .non from q]; exact ⟨rfl, rfl, rfl⟩
def inF (x : D) : List D → Option Bool
  | [] => if D.flat x then some false else none
  | y :: r => match eqF y x, inF x r with
    | some a, some b => some (a || b)
    | _, _ => none
theorem inF_ok {W : Wd} {H : Hp} {S S' : Addr → Prop} {ob : Nat → Option Addr} {x : D} {v : V} (p : RepU W H S ob x v) : ∀ {ys : List D} {ws : List V} {b : Bool}, Reps W H S' ob ys ws → inF x ys = some b → flatV v = true ∧ ws.all flatV = true ∧ inV v ws = b
  | [], _, b, h, e => by
    rw [show _ = [] from h]
    unfold inF at e
    split at e
    · rename_i f
      cases e
      refine ⟨?_, rfl, rfl⟩
      cases x with
      | non => rw [show v = .non from p]; rfl
      | bl _ => rw [show v = .bl _ from p]; rfl
      | int _ => rw [show v = .int _ from p]; rfl
      | str _ => rw [show v = .str _ from p]; rfl
      | _ => cases f
    · cases e
  | y :: r, _, b, h, e => by
    obtain ⟨w, t, rfl, q, q2⟩ := h
    have e : (match eqF y x, inF x r with
      | some a, some b => some (a || b)
      | _, _ => none) = some b := e
    split at e
    · rename_i a b' e1 e2
      cases e
      obtain ⟨f1, f2, f3⟩ := eqF_ok q.u p e1
      obtain ⟨g1, g2, g3⟩ := inF_ok p q2 e2
      refine ⟨f2, ?_, ?_⟩
      · rw [List.all_cons, f1, g2]; rfl
      · unfold inV at g3 ⊢
        rw [List.any_cons, f3, g3]
    · cases e
def sgn (x y : Str) : Option Bool := if x.length = 1 then some (decide (x.cps.getD 0 0 ∈ y.cps.toList)) else none
def gInO (x y : D) : Option Bool := match y with
  | .lst ys => inF x ys
  | .tup ys => inF x ys
  | .ctup ys => inF x ys
  | .str s => (match x with
    | .str c => sgn c s
    | _ => none)
  | _ => (dget y x).map (·.isSome)
def gIn (x y : D) : Res D := match gInO x y with
  | some b => .ok (.bl b)
  | none => .stuck
def gNotIn (x y : D) : Res D := match gInO x y with
  | some b => .ok (.bl (!b))
  | none => .stuck
abbrev rDIn : R2 := fun y x H Q => ∃ a o, x = .ref a ∧ DGet H a y o ∧ Q (.bl o.isSome) H
abbrev rDNotIn : R2 := fun y x H Q => ∃ a o, x = .ref a ∧ DGet H a y o ∧ Q (.bl (!o.isSome)) H
theorem op_din {X : Cx} (hu : X.A.units + 64 < cLine) : OpR X (compareOp .In) rDIn := by
  intro pins s σ H x y v u Q I rx ry h
  obtain ⟨a, o, rfl, g, q⟩ := h
  cases ry
  exact d_in (by omega) I g rx fun s3 I3 => ⟨.bl o.isSome, H, I3, rfl, q⟩
theorem op_dnotin {X : Cx} (hu : X.A.units + 64 < cLine) : OpR X (compareOp .NotIn) rDNotIn := by
  intro pins s σ H x y v u Q I rx ry h
  obtain ⟨a, o, rfl, g, q⟩ := h
  cases ry
  exact d_notIn (by omega) I g rx fun s3 I3 => ⟨.bl (!o.isSome), H, I3, rfl, q⟩
end DL
namespace DL
open PySem PySem.Spec PyProof.Rows L2

abbrev rIn3 (K : PySem.W.Frag) : R2 := fun x y H Q => rIn K false x y H Q ∨ (rDIn x y H Q ∨ ∃ c z, x = .str ⟨#[c]⟩ ∧ y = .str z ∧ Q (.bl (decide (c ∈ z.cps.toList))) H)
abbrev rNIn3 (K : PySem.W.Frag) : R2 := fun x y H Q => rIn K true x y H Q ∨ (rDNotIn x y H Q ∨ ∃ c z, x = .str ⟨#[c]⟩ ∧ y = .str z ∧ Q (.bl (!decide (c ∈ z.cps.toList))) H)
theorem op_in3 {X : Cx} (hu : X.A.units + 64 < cLine) : OpR X (compareOp .In) (rIn3 X.K) := op_in_seq.or ((op_din hu).or op_in_sign)
theorem op_nin3 {X : Cx} (hu : X.A.units + 64 < cLine) : OpR X (compareOp .NotIn) (rNIn3 X.K) := op_notIn_seq.or ((op_dnotin hu).or op_notIn_sign)
theorem sgn_ok {x y : Str} {b : Bool} (e : sgn x y = some b) : ∃ c, x = ⟨#[c]⟩ ∧ decide (c ∈ y.cps.toList) = b := by
  unfold sgn at e
  split at e
  · rename_i h
    obtain ⟨cps⟩ := x
    have h1 : cps.size = 1 := h
    refine ⟨cps[0], ?_, ?_⟩
    · congr 1
      apply Array.ext
      · simp [h1]
      · intro i hi1 hi2
        have : i = 0 := by omega
        subst this
        simp
    · have e := Option.some.inj e
      rw [← e]
      have : (cps.getD 0 0) = cps[0] := by simp [Array.getD, h1]
      simp [this]
  · cases e
/-- what «in» gives -/
theorem in_ok {W : Wd} {H : Hp} {S S' : Addr → Prop} {ob : Nat → Option Addr} {x y : D} {v w : V} {b : Bool} (p : RepU W H S ob x v) (q : RepU W H S' ob y w) (e : gInO x y = some b) :
    (∃ a xs, w = .ref a ∧ (SqL W.K H a xs ∨ SqT W.K H a xs) ∧ flatV v = true ∧ xs.all flatV = true ∧ inV v xs = b) ∨ (∃ a o, w = .ref a ∧ DGet H a v o ∧ o.isSome = b) ∨ ∃ c z, v = .str ⟨#[c]⟩ ∧ w = .str z ∧ decide (c ∈ z.cps.toList) = b := by
  unfold gInO at e
  split at e
  · obtain ⟨a, vs, e1, h1, r1⟩ := q
    obtain ⟨f1, f2, f3⟩ := inF_ok p r1 e
    exact .inl ⟨a, vs, e1, .inl (.of h1), f1, f2, f3⟩
  · obtain ⟨a, vs, e1, h1, r1⟩ := q
    obtain ⟨f1, f2, f3⟩ := inF_ok p r1 e
    exact .inl ⟨a, vs, e1, .inr (.of h1), f1, f2, f3⟩
  · obtain ⟨a, vs, e1, h1, r1⟩ := q
    obtain ⟨f1, f2, f3⟩ := inF_ok p r1 e
    exact .inl ⟨a, vs, e1, .inr (.inr h1), f1, f2, f3⟩
  · split at e
    · obtain ⟨c, e1, e2⟩ := sgn_ok e
      exact .inr (.inr ⟨c, _, by rw [show v = .str _ from p, e1], q, e2⟩)
    · cases e
  · cases z : dget y x with
    | none => rw [z] at e; cases e
    | some o =>
      rw [z] at e
      have e : o.isSome = b := Option.some.inj e
      obtain ⟨a, u, e1, g, h⟩ := dget_ok q p z
      refine .inr (.inl ⟨a, u, e1, g, ?_⟩)
      rw [← e]
      cases o with
      | none => rw [show u = none from h]; rfl
      | some d => obtain ⟨t, e2, _⟩ := h; rw [e2]; rfl
theorem lf_in {W : Wd} : LfOp W gIn (rIn3 W.K) := by
  intro Wx L B σ H Q x y v w al p q l
  unfold gIn at l
  split at l
  · rename_i b e
    rcases in_ok p q e with ⟨a, xs, e1, h1, f1, f2, f3⟩ | ⟨a, o, e1, g, e2⟩ | ⟨c, z, e1, e2, e3⟩
    · refine .inl ⟨a, xs, e1, h1, f1, f2, ?_⟩
      rw [if_neg (by decide), f3]
      exact l.ret rfl
    · exact .inr (.inl ⟨a, o, e1, g, by rw [e2]; exact l.ret rfl⟩)
    · exact .inr (.inr ⟨c, z, e1, e2, by rw [e3]; exact l.ret rfl⟩)
  · exact l.elim
theorem lf_nin {W : Wd} : LfOp W gNotIn (rNIn3 W.K) := by
  intro Wx L B σ H Q x y v w al p q l
  unfold gNotIn at l
  split at l
  · rename_i b e
    rcases in_ok p q e with ⟨a, xs, e1, h1, f1, f2, f3⟩ | ⟨a, o, e1, g, e2⟩ | ⟨c, z, e1, e2, e3⟩
    · refine .inl ⟨a, xs, e1, h1, f1, f2, ?_⟩
      rw [if_pos rfl, f3]
      exact l.ret rfl
    · exact .inr (.inl ⟨a, o, e1, g, by rw [e2]; exact l.ret rfl⟩)
    · exact .inr (.inr ⟨c, z, e1, e2, by rw [e3]; exact l.ret rfl⟩)
  · exact l.elim
@[simp] def gIs (x y : D) : Res D := match x, y with
  | .non, .non => .ok (.bl true)
  | _, .non => .ok (.bl false)
  | _, _ => .stuck
@[simp] def gIsNot (x y : D) : Res D := match x, y with
  | .non, .non => .ok (.bl false)
  | _, .non => .ok (.bl true)
  | _, _ => .stuck
theorem rep_ne_non {W : Wd} {H : Hp} {S : Addr → Prop} {ob : Nat → Option Addr} : ∀ {x : D} {v : V}, x ≠ .non → RepU W H S ob x v → v ≠ .non
  | .non, v, h, r => absurd rfl h
  | .bl _, v, h, r => by rw [show v = .bl _ from r]; intro z; cases z
  | .int _, v, h, r => by rw [show v = .int _ from r]; intro z; cases z
  | .str _, v, h, r => by rw [show v = .str _ from r]; intro z; cases z
  | .lst _, v, h, r => by obtain ⟨a, vs, e, _⟩ := r; rw [e]; intro z; cases z
  | .tup _, v, h, r => by obtain ⟨a, vs, e, _⟩ := r; rw [e]; intro z; cases z
  | .ctup _, v, h, r => by obtain ⟨a, vs, e, _⟩ := r; rw [e]; intro z; cases z
  | .dK _, v, h, r => by obtain ⟨a, vs, e, _⟩ := r; rw [e]; intro z; cases z
  | .dT _, v, h, r => by obtain ⟨a, vs, e, _⟩ := r; rw [e]; intro z; cases z
  | .ins _ _, v, h, r => by obtain ⟨a, C, dx, fv, e, _⟩ := r; rw [e]; intro z; cases z
  | .obj _, v, h, r => by obtain ⟨a, _, e⟩ := r; rw [e]; intro z; cases z
theorem lf_is {W : Wd} : LfOp W gIs (fun x y H Q => y = .non ∧ Q (.bl (decide (x = .non))) H) := by
  intro Wx L B σ H Q x y v w al p q l
  unfold gIs at l
  split at l
  · refine ⟨q, ?_⟩
    rw [show v = .non from p]
    exact l.ret rfl
  · rename_i h
    refine ⟨q, ?_⟩
    rw [decide_eq_false (rep_ne_non (fun z => h z) p)]
    exact l.ret rfl
  · exact l.elim
theorem lf_isnot {W : Wd} : LfOp W gIsNot (fun x y H Q => y = .non ∧ Q (.bl (!decide (x = .non))) H) := by
  intro Wx L B σ H Q x y v w al p q l
  unfold gIsNot at l
  split at l
  · refine ⟨q, ?_⟩
    rw [show v = .non from p]
    exact l.ret rfl
  · rename_i h
    refine ⟨q, ?_⟩
    rw [decide_eq_false (rep_ne_non (fun z => h z) p)]
    exact l.ret rfl
  · exact l.elim

/-! ### subscripts -/
def dat (xs : List D) (i : Int) : Option D := atI xs i
theorem dat_ok {W : Wd} {H : Hp} {S : Addr → Prop} {ob : Nat → Option Addr} {xs : List D} {vs : List V} {i : Int} {d : D} (r : Reps W H S ob xs vs) (e : dat xs i = some d) : ∃ v, atI vs i = some v ∧ Rep W H S ob d v := by
  unfold dat atI at e
  unfold atI
  rw [r.len]
  cases z : ixN xs.length i with
  | none => rw [z] at e; cases e
  | some j =>
    rw [z] at e
    exact r.get e
noncomputable def gIx (x y : D) : Res D := match x, y with
  | .lst xs, .int i => (match dat xs i with
    | some d => .ok d
    | none => .stuck)
  | .tup xs, .int i => (match dat xs i with
    | some d => .ok d
    | none => .stuck)
  | .ctup xs, .int i => (match dat xs i with
    | some d => .ok d
    | none => .stuck)
  | .str s, .int i => @ite _ (s.length ≤ 16777216) (Classical.propDecidable _) (match atI s.cps.toList i with
    | some c => .ok (.str ⟨#[c]⟩)
    | none => .stuck) .stuck
  | x, y => (match dget x y with
    | some (some d) => .ok d
    | _ => .stuck)
abbrev rDGetV : R2 := fun x y H Q => ∃ a v, x = .ref a ∧ DGet H a y (some v) ∧ Q v H
theorem ix_dict {X : Cx} (hu : X.A.units + 64 < cLine) : IxR X rDGetV := by
  intro value slice pins s σ H x y v u Q I rx ry h hs
  obtain ⟨a, z, rfl, g, q⟩ := h
  cases rx
  exact tail_any (dict_typeIs I g) PySem.F.slot_dict_getitem.lookup (d_getItem (by omega) I g ry fun w' s3 I3 rw' => ⟨z, H, I3, rw', q⟩) hs
abbrev rIx4 (K : PySem.W.Frag) : R2 := fun x y H Q => rIx K x y H Q ∨ rDGetV x y H Q
theorem ix_any {X : Cx} (hu : X.A.units + 64 < cLine) : IxR X (rIx4 X.K) := ix_seq.or (ix_dict hu)
theorem lf_ix {W : Wd} : LfOp W gIx (rIx4 W.K) := by
  intro Wx L B σ H Q x y v w al p q l
  unfold gIx at l
  split at l
  · split at l
    · rename_i d e
      obtain ⟨a, vs, e1, h1, r1⟩ := p
      obtain ⟨u, e2, r2⟩ := dat_ok r1 e
      exact .inl (.inl ⟨a, vs, _, u, e1, q, .of h1, e2, l.ret r2⟩)
    · exact l.elim
  · split at l
    · rename_i d e
      obtain ⟨a, vs, e1, h1, r1⟩ := p
      obtain ⟨u, e2, r2⟩ := dat_ok r1 e
      exact .inl (.inr (.inl ⟨a, vs, _, u, e1, q, .of h1, e2, l.ret r2⟩))
    · exact l.elim
  · split at l
    · rename_i d e
      obtain ⟨a, vs, e1, h1, r1⟩ := p
      obtain ⟨u, e2, r2⟩ := dat_ok r1 e
      exact .inl (.inr (.inl ⟨a, vs, _, u, e1, q, .inr h1, e2, l.ret r2⟩))
    · exact l.elim
  · split at l
    · split at l
      · rename_i h _ c e
        exact .inl (.inr (.inr ⟨_, _, c, p, q, by rw [sizeLine_eq]; exact h, e, l.ret rfl⟩))
      · exact l.elim
    · exact l.elim
  · split at l
    · rename_i d e
      obtain ⟨a, z, e1, g, o⟩ := dget_ok p q e
      obtain ⟨u, e2, r⟩ := o
      subst e2
      exact .inr ⟨a, u, e1, g, l.ret r⟩
    · exact l.elim
section
variable {X : Cx} {Wx : WX} {pos : Pos} {a b : Expr} {Ba Bb : List Nat} {ma mb : M}
theorem d_ix (hu : X.A.units + 64 < cLine) (ha : DU X Wx Ba a ma) (hb : DU X Wx Bb b mb) (hs : PlainIx b := by exact fun _ _ => rfl) : DP X Wx (Ba ++ Bb) (.Subscript a b pos) (m2 ma mb gIx) :=
  ⟨PE.weak (pe_ix (ix_any hu) ha.pe hb.pe hs) fun σ H Q ⟨F, ρ, ω, L, R, h⟩ => part2 subl subr R h fun v w H1 x y s R1 p q l => lf_ix Wx L _ σ H1 Q x y v w R1.al p q l⟩
end
/-! ### slices -/
def cutD {α : Type} (xs : List α) (lo hi : Option Int) : List α := (xs.drop (HT.sIx xs.length 0 lo)).take (HT.sIx xs.length xs.length hi - HT.sIx xs.length 0 lo)
theorem cut_reps {W : Wd} {H : Hp} {S : Addr → Prop} {ob : Nat → Option Addr} {xs : List D} {vs : List V} (r : Reps W H S ob xs vs) (lo hi : Option Int) : Reps W H S ob (cutD xs lo hi) (cutV vs lo hi) := by
  unfold cutD cutV
  rw [r.len]
  exact (r.drop _).take _
noncomputable def gSl (x : D) (lo hi : Option Int) : Res D := match x with
  | .lst xs => .ok (.lst (cutD xs lo hi))
  | .tup xs => if HT.sIx xs.length 0 lo = 0 ∧ HT.sIx xs.length xs.length hi = xs.length then .stuck else .ok (.tup (cutD xs lo hi))
  | .str s => @ite _ (s.length ≤ 16777216) (Classical.propDecidable _) (.ok (.str (cutS s lo hi))) .stuck
  | _ => .stuck
abbrev rSl3 (K : PySem.W.Frag) : V → Option Int → Option Int → Hp → VK → Prop := fun x lo hi H Q => rSlL K x lo hi H Q ∨ (rSlT K x lo hi H Q ∨ rSlS x lo hi H Q)
theorem sl_any {X : Cx} : SlR X (rSl3 X.K) := sl_list.or (sl_tup.or sl_str)
theorem lf_sl {W : Wd} {Wx : WX} {L : Lc} {B : List Nat} {σ : L2.St} {H : Hp} {Q : VK} {x : D} {v : V} {lo hi : Option Int} (al : Al L H) (p : RepU W H (Fr L B) (obs L) x v) (l : Leaf W Wx L B σ H Q (gSl x lo hi)) : rSl3 W.K v lo hi H Q := by
  unfold gSl at l
  split at l
  · obtain ⟨a, vs, e1, h1, r1⟩ := p
    refine .inl ⟨a, vs, e1, .of h1, fun z hz => ?_⟩
    have sm := same_upd (o := .lst (cutV vs lo hi)) hz
    exact l.ret' sm ⟨z, _, rfl, al.fr hz B, upd_same, cut_reps (r1.same sm) lo hi⟩
  · split at l
    · exact l.elim
    · rename_i h
      obtain ⟨a, vs, e1, h1, r1⟩ := p
      refine .inr (.inl ⟨a, vs, e1, .of h1, by rw [r1.len]; exact h, fun z hz => ?_⟩)
      have sm := same_upd (o := .tup (cutV vs lo hi)) hz
      exact l.ret' sm ⟨z, _, rfl, upd_same, cut_reps (r1.same sm) lo hi⟩
  · split at l
    · rename_i h
      exact .inr (.inr ⟨_, p, by rw [sizeLine_eq]; exact h, l.ret rfl⟩)
    · exact l.elim
  · exact l.elim
/-- an end of a slice -/
def tO (W : Wd) (Wx : WX) (m : Env' → Store → Res (Option Int)) : TO := fun σ H Q => ∃ F ρ ω L, Rel W F ρ ω L σ H ∧ (match m ρ ω with
    | .stuck => False
    | .ok o => ∀ H', Same H H' → Q o H'
    | .err e => ∀ cls dd H', Same H H' → Exc W H' e cls dd → Wx cls dd σ H')
structure DO (X : Cx) (Wx : WX) (e : Option Expr) (m : Env' → Store → Res (Option Int)) : Prop where
  po : PO X e (tO (wd X) Wx m)
@[simp] def oNone : Env' → Store → Res (Option Int) := fun _ _ => .ok none
@[simp] def oSome (ma : M) : Env' → Store → Res (Option Int) := fun ρ ω => (ma ρ ω).bind fun x => match x with
  | .int i => .ok (some i)
  | _ => .stuck
section
variable {X : Cx} {Wx : WX} {pos p2 : Pos} {a b : Expr} {Ba Bb : List Nat} {ma mb : M}
theorem o_none : DO X Wx none oNone := ⟨⟨fun pins s σ H Q I h => by
  obtain ⟨F, ρ, ω, L, R, q⟩ := h
  exact po_none.run pins s σ H Q I (q H (Same.refl H))⟩⟩
theorem o_some (ha : DU X Wx Ba a ma) : DO X Wx (some a) (oSome ma) := ⟨⟨fun pins s σ H Q I h => by
  obtain ⟨F, ρ, ω, L, R, q⟩ := h
  refine (po_some ha.pe).run pins s σ H Q I ?_
  refine ⟨F, ρ, ω, L, R, ?_⟩
  unfold oSome at q
  cases z : ma ρ ω with
  | stuck => rw [z] at q; exact q
  | err x => rw [z] at q; exact q
  | ok x =>
    rw [z] at q
    cases x with
    | int i => exact fun v H' s r => ⟨i, r, q H' s⟩
    | _ => exact q.elim⟩⟩
@[simp] noncomputable def mSl (ma : M) (lo hi : Env' → Store → Res (Option Int)) : M := fun ρ ω => (ma ρ ω).bind fun x => (lo ρ ω).bind fun l => (hi ρ ω).bind fun h => gSl x l h
theorem d_slice {lo hi : Option Expr} {ml mh : Env' → Store → Res (Option Int)} (ha : DU X Wx Ba a ma) (hl : DO X Wx lo ml) (hh : DO X Wx hi mh) : DP X Wx Ba (.Subscript a (.Slice lo hi none p2) pos) (mSl ma ml mh) := by
  refine ⟨PE.weak (pe_slice sl_any ha.pe hl.po hh.po) fun σ H Q ⟨F, ρ, ω, L, R, h⟩ => ?_⟩
  refine part1 (k := fun x => (ml ρ ω).bind fun l => (mh ρ ω).bind fun h => gSl x l h) subid R h fun v H1 x s R1 p l => ?_
  refine ⟨F, ρ, ω, L, R1, ?_⟩
  cases z1 : ml ρ ω with
  | stuck => rw [z1] at l; exact l
  | err x => rw [z1] at l; exact l
  | ok o1 =>
    rw [z1] at l
    intro H2 s2
    refine ⟨F, ρ, ω, L, R1.same s2, ?_⟩
    cases z2 : mh ρ ω with
    | stuck => rw [z2] at l; exact l
    | err x => rw [z2] at l; exact fun c d H' s h => l c d H' (s2.trans s) h
    | ok o2 =>
      rw [z2] at l
      intro H3 s3
      exact lf_sl (R1.al.same (s2.trans s3)) (p.same (s2.trans s3)) (l.to (s2.trans s3) subid fun _ _ q => q)
end
end DL
namespace DL
open PySem PySem.Spec PyProof.Rows L2

/-! ### comparisons as values and as tests -/
section
variable {X : Cx} {Wx : WX} {pos : Pos} {a b c : Expr} {Ba Bb Bc : List Nat} {ma mb mc : M}
theorem d_lt (ha : DU X Wx Ba a ma) (hb : DU X Wx Bb b mb) : DP X Wx (Ba ++ Bb) (.Compare a [.Lt] [b] pos) (m2 ma mb gLt) := d_cmp op_lt lf_int (nomark _) ha hb
theorem d_le (ha : DU X Wx Ba a ma) (hb : DU X Wx Bb b mb) : DP X Wx (Ba ++ Bb) (.Compare a [.LtE] [b] pos) (m2 ma mb gLe) := d_cmp op_le lf_int (nomark _) ha hb
theorem d_gt (ha : DU X Wx Ba a ma) (hb : DU X Wx Bb b mb) : DP X Wx (Ba ++ Bb) (.Compare a [.Gt] [b] pos) (m2 ma mb gGt) := d_cmp op_gt lf_int (nomark _) ha hb
theorem d_ge (ha : DU X Wx Ba a ma) (hb : DU X Wx Bb b mb) : DP X Wx (Ba ++ Bb) (.Compare a [.GtE] [b] pos) (m2 ma mb gGe) := d_cmp op_ge lf_int (nomark _) ha hb
theorem d_eq (hu : X.A.units + 64 < cLine) (ha : DU X Wx Ba a ma) (hb : DU X Wx Bb b mb) : DP X Wx (Ba ++ Bb) (.Compare a [.Eq] [b] pos) (m2 ma mb gEq) := d_cmp (op_eq3 hu) lf_eq (nomark _) ha hb
theorem d_ne (hu : X.A.units + 64 < cLine) (ha : DU X Wx Ba a ma) (hb : DU X Wx Bb b mb) : DP X Wx (Ba ++ Bb) (.Compare a [.NotEq] [b] pos) (m2 ma mb gNe) := d_cmp (op_ne3 hu) lf_ne (nomark _) ha hb
theorem d_in (hu : X.A.units + 64 < cLine) (ha : DU X Wx Ba a ma) (hb : DU X Wx Bb b mb) (hm : behindInMarks .In b = false := by rfl) : DP X Wx (Ba ++ Bb) (.Compare a [.In] [b] pos) (m2 ma mb gIn) := d_cmp (op_in3 hu) lf_in hm ha hb
theorem d_nin (hu : X.A.units + 64 < cLine) (ha : DU X Wx Ba a ma) (hb : DU X Wx Bb b mb) (hm : behindInMarks .NotIn b = false := by rfl) : DP X Wx (Ba ++ Bb) (.Compare a [.NotIn] [b] pos) (m2 ma mb gNotIn) := d_cmp (op_nin3 hu) lf_nin hm ha hb
theorem d_is (ha : DU X Wx Ba a ma) (hb : DU X Wx Bb b mb) : DP X Wx (Ba ++ Bb) (.Compare a [.Is] [b] pos) (m2 ma mb gIs) := d_cmp op_isN lf_is (nomark _) ha hb
theorem d_isnot (ha : DU X Wx Ba a ma) (hb : DU X Wx Bb b mb) : DP X Wx (Ba ++ Bb) (.Compare a [.IsNot] [b] pos) (m2 ma mb gIsNot) := d_cmp op_notN lf_isnot (nomark _) ha hb
theorem t_lt (ha : DU X Wx Ba a ma) (hb : DU X Wx Bb b mb) : DB X Wx (.Compare a [.Lt] [b] pos) (b2 ma mb gLt) := t_cmp op_lt lf_int (nomark _) ha hb
theorem t_le (ha : DU X Wx Ba a ma) (hb : DU X Wx Bb b mb) : DB X Wx (.Compare a [.LtE] [b] pos) (b2 ma mb gLe) := t_cmp op_le lf_int (nomark _) ha hb
theorem t_gt (ha : DU X Wx Ba a ma) (hb : DU X Wx Bb b mb) : DB X Wx (.Compare a [.Gt] [b] pos) (b2 ma mb gGt) := t_cmp op_gt lf_int (nomark _) ha hb
theorem t_ge (ha : DU X Wx Ba a ma) (hb : DU X Wx Bb b mb) : DB X Wx (.Compare a [.GtE] [b] pos) (b2 ma mb gGe) := t_cmp op_ge lf_int (nomark _) ha hb
theorem t_eq (hu : X.A.units + 64 < cLine) (ha : DU X Wx Ba a ma) (hb : DU X Wx Bb b mb) : DB X Wx (.Compare a [.Eq] [b] pos) (b2 ma mb gEq) := t_cmp (op_eq3 hu) lf_eq (nomark _) ha hb
theorem t_ne (hu : X.A.units + 64 < cLine) (ha : DU X Wx Ba a ma) (hb : DU X Wx Bb b mb) : DB X Wx (.Compare a [.NotEq] [b] pos) (b2 ma mb gNe) := t_cmp (op_ne3 hu) lf_ne (nomark _) ha hb
theorem t_in (hu : X.A.units + 64 < cLine) (ha : DU X Wx Ba a ma) (hb : DU X Wx Bb b mb) (hm : behindInMarks .In b = false := by rfl) : DB X Wx (.Compare a [.In] [b] pos) (b2 ma mb gIn) := t_cmp (op_in3 hu) lf_in hm ha hb
theorem t_nin (hu : X.A.units + 64 < cLine) (ha : DU X Wx Ba a ma) (hb : DU X Wx Bb b mb) (hm : behindInMarks .NotIn b = false := by rfl) : DB X Wx (.Compare a [.NotIn] [b] pos) (b2 ma mb gNotIn) := t_cmp (op_nin3 hu) lf_nin hm ha hb
theorem t_is (ha : DU X Wx Ba a ma) (hb : DU X Wx Bb b mb) : DB X Wx (.Compare a [.Is] [b] pos) (b2 ma mb gIs) := t_cmp op_isN lf_is (nomark _) ha hb
theorem t_isnot (ha : DU X Wx Ba a ma) (hb : DU X Wx Bb b mb) : DB X Wx (.Compare a [.IsNot] [b] pos) (b2 ma mb gIsNot) := t_cmp op_notN lf_isnot (nomark _) ha hb
/-! a chain -/
@[simp] def mCh (ma mb mc : M) (g g' : D → D → Res D) : M := fun ρ ω => (ma ρ ω).bind fun x => (mb ρ ω).bind fun y => (g x y).bind fun z => match z with
  | .bl true => (mc ρ ω).bind fun w => g' y w
  | .bl false => .ok (.bl false)
  | _ => .stuck
theorem chain_read {σ : L2.St} {H : Hp} {Q : VK} {W : Wd} {g g' : D → D → Res D} {r r' : R2} (hl : LfOp W g r) (hl' : LfOp W g' r') {F : Fm} {ρ : Env'} {ω : Store} {L : Lc} (R : Rel W F ρ ω L σ H) (h : Leaf W Wx L (Ba ++ (Bb ++ Bc)) σ H Q (mCh ma mb mc g g' ρ ω)) :
    tChain r r' (tU W Wx Ba ma) (tU W Wx Bb mb) (tU W Wx Bc mc) σ H Q := by
  unfold tChain
  refine part1 (B := Ba ++ (Bb ++ Bc)) (k := fun x => (mb ρ ω).bind fun y => (g x y).bind fun z => match z with
    | .bl true => (mc ρ ω).bind fun w => g' y w
    | .bl false => .ok (.bl false)
    | _ => .stuck) subl R h fun v H1 x s1 R1 p l1 => ?_
  refine part1 (B := Ba ++ (Bb ++ Bc)) (fun i hi => subr i (subl i hi)) R1 l1 fun w H2 y s2 R2 q l2 => ?_
  refine hl Wx L (Ba ++ (Bb ++ Bc)) σ H2 _ x y v w R2.al (p.same s2) q ?_
  cases z : g x y with
  | stuck => rw [z] at l2; exact l2
  | err e => rw [z] at l2; exact l2
  | ok d =>
    rw [z] at l2
    intro u H3 s3 r3
    cases d with
    | bl k =>
      refine ⟨k, r3, ?_⟩
      cases k with
      | true =>
        rw [if_pos rfl]
        refine part1 (B := Ba ++ (Bb ++ Bc)) (fun i hi => subr i (subr i hi)) (R2.same s3) (l2.to s3 subid fun _ _ q => q) fun w' H4 y' s4 R4 q4 l4 => ?_
        exact hl' Wx L _ σ H4 Q y y' w w' R4.al ((q.same s3).same s4) q4 l4
      | false =>
        rw [if_neg (by decide)]
        exact l2 _ H3 s3 rfl
    | _ => exact l2.elim
theorem d_chain {op op' : CmpOp} {g g' : D → D → Res D} {r r' : R2} (ho : OpR X (compareOp op) r) (hl : LfOp (wd X) g r) (ho' : OpR X (compareOp op') r') (hl' : LfOp (wd X) g' r') (ha : DU X Wx Ba a ma) (hb : DU X Wx Bb b mb) (hc : DU X Wx Bc c mc) (hm : lastMarks [op, op'] [b, c] = false := by rfl) :
    DP X Wx (Ba ++ (Bb ++ Bc)) (.Compare a [op, op'] [b, c] pos) (mCh ma mb mc g g') :=
  ⟨PE.weak (pe_chain ho ho' ha.pe hb.pe hc.pe (hm := hm)) fun σ H Q ⟨F, ρ, ω, L, R, h⟩ => chain_read hl hl' R h⟩
theorem t_chain {op op' : CmpOp} {g g' : D → D → Res D} {r r' : R2} (ho : OpR X (compareOp op) r) (hl : LfOp (wd X) g r) (ho' : OpR X (compareOp op') r') (hl' : LfOp (wd X) g' r') (ha : DU X Wx Ba a ma) (hb : DU X Wx Bb b mb) (hc : DU X Wx Bc c mc) (hm : lastMarks [op, op'] [b, c] = false := by rfl) :
    DB X Wx (.Compare a [op, op'] [b, c] pos) (bV (mCh ma mb mc g g')) :=
  ⟨PT.weak (pt_chain ho ho' ha.pe hb.pe hc.pe (hm := hm)) fun σ H Q ⟨F, ρ, ω, L, R, h⟩ => chain_read (Q := fun x H' => ∃ k, x = .bl k ∧ Q k H') hl hl' R (leaf_b h)⟩

/-! ### and, or, not -/
structure DW (X : Cx) (Wx : WX) (e : Expr) (m : Env' → Store → Res Bool) : Prop where
  pw : PW X e (tT (wd X) Wx m)
theorem PW.weak {e : Expr} {t t' : TT} (h : PW X e t) (w : ∀ σ H Q, t' σ H Q → t σ H Q) : PW X e t' := ⟨fun wh pins s σ H Q I q => h.run wh pins s σ H Q I (w σ H Q q)⟩
@[simp] def bAnd (mA mB : Env' → Store → Res Bool) : Env' → Store → Res Bool := fun ρ ω => (mA ρ ω).bind fun k => if k = true then mB ρ ω else .ok false
@[simp] def bOr (mA mB : Env' → Store → Res Bool) : Env' → Store → Res Bool := fun ρ ω => (mA ρ ω).bind fun k => if k = true then .ok true else mB ρ ω
@[simp] def bNot (mA : Env' → Store → Res Bool) : Env' → Store → Res Bool := fun ρ ω => (mA ρ ω).bind fun k => .ok (!k)
theorem tT.bind {W : Wd} {F : Fm} {ρ : Env'} {ω : Store} {L : Lc} {σ : L2.St} {H : Hp} {Q : Bool → Hp → Prop} {mA : Env' → Store → Res Bool} {k : Bool → Res Bool} (R : Rel W F ρ ω L σ H) (h : LeafB W Wx L σ H Q ((mA ρ ω).bind k)) {P : Bool → Hp → Prop}
    (hP : ∀ b H1, Same H H1 → Rel W F ρ ω L σ H1 → LeafB W Wx L σ H1 Q (k b) → P b H1) : tT W Wx mA σ H P := by
  refine ⟨F, ρ, ω, L, R, ?_⟩
  cases e : mA ρ ω with
  | stuck => rw [e] at h; exact h
  | err x => rw [e] at h; exact h
  | ok b =>
    rw [e] at h
    exact fun H1 s => hP b H1 s (R.same s) (h.to s fun _ _ q => q)
variable {tA tB' : Env' → Store → Res Bool} {rest : List Expr}
theorem w_and1 (ha : DB X Wx a tA) : DW X Wx (.BoolOp .And [a] pos) tA := ⟨pw_and1 ha.pt⟩
theorem w_or1 (ha : DB X Wx a tA) : DW X Wx (.BoolOp .Or [a] pos) tA := ⟨pw_or1 ha.pt⟩
theorem w_and (ha : DB X Wx a tA) (hb : DW X Wx (.BoolOp .And (b :: rest) pos) tB') : DW X Wx (.BoolOp .And (a :: b :: rest) pos) (bAnd tA tB') :=
  ⟨PW.weak (pw_and ha.pt hb.pw) fun σ H Q ⟨F, ρ, ω, L, R, h⟩ => tT.bind (k := fun k => if k = true then tB' ρ ω else .ok false) R h fun k H1 s R1 l => by
    cases k with
    | true => rw [if_pos rfl] at l ⊢; exact ⟨F, ρ, ω, L, R1, l⟩
    | false => rw [if_neg (by decide)] at l ⊢; exact l H1 (Same.refl _)⟩
theorem w_or (ha : DB X Wx a tA) (hb : DW X Wx (.BoolOp .Or (b :: rest) pos) tB') : DW X Wx (.BoolOp .Or (a :: b :: rest) pos) (bOr tA tB') :=
  ⟨PW.weak (pw_or ha.pt hb.pw) fun σ H Q ⟨F, ρ, ω, L, R, h⟩ => tT.bind (k := fun k => if k = true then .ok true else tB' ρ ω) R h fun k H1 s R1 l => by
    cases k with
    | true => rw [if_pos rfl] at l ⊢; exact l H1 (Same.refl _)
    | false => rw [if_neg (by decide)] at l ⊢; exact ⟨F, ρ, ω, L, R1, l⟩⟩
theorem DW.db {e : Expr} {m : Env' → Store → Res Bool} (h : DW X Wx e m) : DB X Wx e m := ⟨h.pw.pt⟩
theorem t_not (ha : DB X Wx a tA) : DB X Wx (.UnaryOp .Not a pos) (bNot tA) :=
  ⟨PT.weak (pt_not ha.pt) fun σ H Q ⟨F, ρ, ω, L, R, h⟩ => tT.bind (k := fun k => .ok (!k)) R h fun k H1 s R1 l => l H1 (Same.refl _)⟩
/-! as values -/
@[simp] def mAnd (ma mb : M) : M := fun ρ ω => (ma ρ ω).bind fun x => match x with
  | .bl true => mb ρ ω
  | .bl false => .ok (.bl false)
  | _ => .stuck
@[simp] def mOr (ma mb : M) : M := fun ρ ω => (ma ρ ω).bind fun x => match x with
  | .bl true => .ok (.bl true)
  | .bl false => mb ρ ω
  | _ => .stuck
@[simp] def gNot : D → Res D
  | .bl k => .ok (.bl (!k))
  | _ => .stuck
theorem v_one {op} (ha : DP X Wx Ba a ma) : DP X Wx Ba (.BoolOp op [a] pos) ma := ⟨pe_one ha.pe⟩
theorem DP.sub {B B' : List Nat} {e : Expr} {m : M} (h : DP X Wx B e m) (s : ∀ i ∈ B, i ∈ B') : DP X Wx B' e m :=
  ⟨PE.weak h.pe fun σ H Q ⟨F, ρ, ω, L, R, l⟩ => ⟨F, ρ, ω, L, R, l.to (Same.refl _) s fun _ _ q => q⟩⟩
theorem v_and (ha : DU X Wx Ba a ma) (hb : DP X Wx Bb (.BoolOp .And (b :: rest) pos) mb) : DP X Wx (Ba ++ Bb) (.BoolOp .And (a :: b :: rest) pos) (mAnd ma mb) :=
  ⟨PE.weak (pe_and ha.pe hb.pe) fun σ H Q ⟨F, ρ, ω, L, R, h⟩ => part1 (B := Ba ++ Bb) (k := fun x => match x with
    | .bl true => mb ρ ω
    | .bl false => .ok (.bl false)
    | _ => .stuck) subl R h fun v H1 x s R1 p l => by
      cases x with
      | bl k =>
        refine ⟨k, p, ?_⟩
        cases k with
        | true => rw [if_pos rfl]; exact ⟨F, ρ, ω, L, R1, l.to (Same.refl _) subr fun _ _ q => q⟩
        | false => rw [if_neg (by decide)]; exact l _ H1 (Same.refl _) rfl
      | _ => exact l.elim⟩
theorem v_or (ha : DU X Wx Ba a ma) (hb : DP X Wx Bb (.BoolOp .Or (b :: rest) pos) mb) : DP X Wx (Ba ++ Bb) (.BoolOp .Or (a :: b :: rest) pos) (mOr ma mb) :=
  ⟨PE.weak (pe_or ha.pe hb.pe) fun σ H Q ⟨F, ρ, ω, L, R, h⟩ => part1 (B := Ba ++ Bb) (k := fun x => match x with
    | .bl true => .ok (.bl true)
    | .bl false => mb ρ ω
    | _ => .stuck) subl R h fun v H1 x s R1 p l => by
      cases x with
      | bl k =>
        refine ⟨k, p, ?_⟩
        cases k with
        | true => rw [if_pos rfl]; exact l _ H1 (Same.refl _) rfl
        | false => rw [if_neg (by decide)]; exact ⟨F, ρ, ω, L, R1, l.to (Same.refl _) subr fun _ _ q => q⟩
      | _ => exact l.elim⟩
theorem v_not (ha : DU X Wx Ba a ma) : DP X Wx Ba (.UnaryOp .Not a pos) (m1 ma gNot) :=
  ⟨PE.weak (pe_not ha.pe) fun σ H Q ⟨F, ρ, ω, L, R, h⟩ => part1 subid R h fun v H1 x s R1 p l => by
    unfold gNot at l
    split at l
    · exact ⟨_, p, l.ret rfl⟩
    · exact l.elim⟩
@[simp] def mIf (mt : Env' → Store → Res Bool) (ma mb : M) : M := fun ρ ω => (mt ρ ω).bind fun k => if k = true then ma ρ ω else mb ρ ω
theorem v_if (hc : DB X Wx c tA) (ha : DP X Wx Ba a ma) (hb : DP X Wx Bb b mb) : DP X Wx (Ba ++ Bb) (.IfExp c a b pos) (mIf tA ma mb) :=
  ⟨PE.weak (pe_ifExp hc.pt ha.pe hb.pe) fun σ H Q ⟨F, ρ, ω, L, R, h⟩ => ⟨F, ρ, ω, L, R, by
    unfold mIf at h
    cases e : tA ρ ω with
    | stuck => rw [e] at h; exact h
    | err x => rw [e] at h; exact h
    | ok k =>
      rw [e] at h
      intro H1 s
      have h : Leaf (wd X) Wx L (Ba ++ Bb) σ H Q (if k = true then ma ρ ω else mb ρ ω) := h
      cases k with
      | true => rw [if_pos rfl] at h ⊢; exact ⟨F, ρ, ω, L, R.same s, h.to s subl fun _ _ q => q⟩
      | false => rw [if_neg (by decide)] at h ⊢; exact ⟨F, ρ, ω, L, R.same s, h.to s subr fun _ _ q => q⟩⟩⟩
end
end DL
namespace DL
open PySem PySem.Spec PyProof.Rows L2

/-! ### fields -/
/-- what the walk asks of a class whose objects bear the field f -/
structure FldOk (X : Cx) (c f : Str) : Prop where
  ok : ∀ C, X.mg c = some (.ref C) → Cls X.K C ∧ NoAttr X.K C f
def fldAt (c f : Str) (ω : Store) : D → Res D
  | .obj n => (match ω[n]? with
    | some o => if o.cls = c then (match o.fs.lookup f with
      | some (.val d) => .ok d
      | some (.own d) => .ok d
      | _ => .stuck) else .stuck
    | none => .stuck)
  | .ins k fs => if k = c then (match fs.lookup f with
    | some d => .ok d
    | none => .stuck) else .stuck
  | _ => .stuck
def mFld (c f : Str) (ma : M) : M := fun ρ ω => (ma ρ ω).bind (fldAt c f ω)
theorem FsR.get {W : Wd} {H : Hp} {L : Lc} {n : Nat} {ex : Bool} {f : Str} {s : Sl} : ∀ {fs : List (Str × Sl)} {vs : List (Str × V)}, FsR W H L n ex fs vs → fs.lookup f = some s → ∃ v, vs.lookup f = some v ∧ SltR W H L (.fd n f) ex s (some v)
  | [], _, h, e => by cases e
  | (g, x) :: r, _, h, e => by
    obtain ⟨v, t, rfl, p, q⟩ := h
    by_cases z : f = g
    · subst z
      simp only [List.lookup, beq_self_eq_true] at e ⊢
      cases e
      exact ⟨v, rfl, p⟩
    · have z' : (f == g) = false := by simpa using z
      simp only [List.lookup, z'] at e ⊢
      exact FsR.get q e
theorem RepF.get {W : Wd} {H : Hp} {S : Addr → Prop} {ob : Nat → Option Addr} {f : Str} {d : D} : ∀ {fs : List (Str × D)} {vs : List (Str × V)}, RepF W H S ob fs vs → fs.lookup f = some d → ∃ v, vs.lookup f = some v ∧ Rep W H S ob d v
  | [], _, h, e => by cases e
  | (g, x) :: r, _, h, e => by
    obtain ⟨v, t, rfl, p, q⟩ := h
    by_cases z : f = g
    · subst z
      simp only [List.lookup, beq_self_eq_true] at e ⊢
      cases e
      exact ⟨v, rfl, p⟩
    · have z' : (f == g) = false := by simpa using z
      simp only [List.lookup, z'] at e ⊢
      exact RepF.get q e
theorem RepO.u {W : Wd} {H : Hp} {S : Addr → Prop} {ob : Nat → Option Addr} {ex : Bool} : ∀ {d : D} {a : Addr}, RepO W H S ob ex d a → RepU W H S ob d (.ref a)
  | .lst xs, a, ⟨vs, h, q⟩ => ⟨a, vs, rfl, h, q⟩
  | .dK xs, a, ⟨vs, h, q⟩ => ⟨a, vs, rfl, h.rd, q⟩
  | .dT xs, a, ⟨vs, h, q⟩ => ⟨a, vs, rfl, h.rd, q⟩
  | .non, _, h | .bl _, _, h | .int _, _, h | .str _, _, h | .tup _, _, h | .ctup _, _, h | .ins _ _, _, h | .obj _, _, h => h.elim
theorem RepU.wide0 {W : Wd} {H : Hp} {L : Lc} {B : List Nat} {ob : Nat → Option Addr} {d : D} {v : V} (h : RepU W H (Fr L []) ob d v) : RepU W H (Fr L B) ob d v := h.wide nilsub
section
variable {X : Cx} {Wx : WX} {pos : Pos} {a b c : Expr} {Ba Bb Bc B : List Nat} {ma mb mc : M} {x f : Str} {pz : Pos}
theorem u_fld (cl : Str) (T : FldOk X cl f) (ha : DU X Wx Ba a ma) (hb : attributeBase a f X.env (eval a X.env) = eval a X.env := by rfl) : DU X Wx Ba (.Attribute a f pos) (mFld cl f ma) :=
  ⟨PE.weak (pe_fld ha.pe hb) fun σ H Q ⟨F, ρ, ω, L, R, h⟩ => by
    refine ⟨F, ρ, ω, L, R, ?_⟩
    unfold mFld at h
    cases e : ma ρ ω with
    | stuck => rw [e] at h; exact h
    | err x => rw [e] at h; exact h
    | ok x =>
      rw [e] at h
      intro v H1 s r
      replace h : LeafU (wd X) Wx L Ba σ H Q (fldAt cl f ω x) := h
      have R1 := R.same s
      unfold fldAt at h
      split at h
      · rename_i n
        split at h
        · rename_i o eo
          split at h
          · rename_i ec
            obtain ⟨p, C, dx, fs, e1, e2, e3, q⟩ := (R1.st n o eo).at_
            obtain ⟨a1, e4, e5⟩ := r
            have e6 : p = a1 := Option.some.inj (e1.symm.trans e4)
            subst e6
            rw [ec] at e2
            obtain ⟨T1, T2⟩ := T.ok C e2
            split at h
            · rename_i d el
              obtain ⟨v1, l1, r1⟩ := q.get el
              obtain ⟨v2, e7, r2⟩ := r1
              cases e7
              exact ⟨p, C, dx, fs, v1, e5, e3, T1, T2, l1, h v1 H1 s r2.u.wide0⟩
            · rename_i d el
              obtain ⟨v1, l1, r1⟩ := q.get el
              obtain ⟨a2, e7, _, r2⟩ := r1
              cases e7
              exact ⟨p, C, dx, fs, _, e5, e3, T1, T2, l1, h _ H1 s r2.u.wide0⟩
            · exact h.elim
          · exact h.elim
        · exact h.elim
      · rename_i k fs
        split at h
        · rename_i ec
          obtain ⟨a1, C, dx, fv, e5, s1, e2, e3, q⟩ := r
          rw [ec] at e2
          obtain ⟨T1, T2⟩ := T.ok C e2
          split at h
          · rename_i d el
            obtain ⟨v1, l1, r1⟩ := q.get el
            exact ⟨a1, C, dx, fv, v1, e5, e3, T1, T2, l1, h v1 H1 s r1.u⟩
          · exact h.elim
        · exact h.elim
      · exact h.elim⟩
/-- the field's value, where it is nobody's own container -/
def fldVal (c f : Str) (ω : Store) : D → Res D
  | .obj n => (match ω[n]? with
    | some o => if o.cls = c then (match o.fs.lookup f with
      | some (.val d) => .ok d
      | _ => .stuck) else .stuck
    | none => .stuck)
  | .ins k fs => if k = c then (match fs.lookup f with
    | some d => .ok d
    | none => .stuck) else .stuck
  | _ => .stuck
def mFldV (c f : Str) (ma : M) : M := fun ρ ω => (ma ρ ω).bind (fldVal c f ω)
theorem d_fld (cl : Str) (T : FldOk X cl f) (ha : DP X Wx Ba a ma) (hb : attributeBase a f X.env (eval a X.env) = eval a X.env := by rfl) : DP X Wx Ba (.Attribute a f pos) (mFldV cl f ma) :=
  ⟨PE.weak (pe_fld ha.pe hb) fun σ H Q ⟨F, ρ, ω, L, R, h⟩ => by
    refine ⟨F, ρ, ω, L, R, ?_⟩
    unfold mFldV at h
    cases e : ma ρ ω with
    | stuck => rw [e] at h; exact h
    | err x => rw [e] at h; exact h
    | ok x =>
      rw [e] at h
      intro v H1 s r
      replace h : Leaf (wd X) Wx L Ba σ H Q (fldVal cl f ω x) := h
      have R1 := R.same s
      unfold fldVal at h
      split at h
      · rename_i n
        split at h
        · rename_i o eo
          split at h
          · rename_i ec
            obtain ⟨p, C, dx, fs, e1, e2, e3, q⟩ := (R1.st n o eo).at_
            obtain ⟨a1, e4, e5⟩ := r
            have e6 : p = a1 := Option.some.inj (e1.symm.trans e4)
            subst e6
            rw [ec] at e2
            obtain ⟨T1, T2⟩ := T.ok C e2
            split at h
            · rename_i d el
              obtain ⟨v1, l1, r1⟩ := q.get el
              obtain ⟨v2, e7, r2⟩ := r1
              cases e7
              exact ⟨p, C, dx, fs, v1, e5, e3, T1, T2, l1, h v1 H1 s (r2.wide nilsub)⟩
            · exact h.elim
          · exact h.elim
        · exact h.elim
      · rename_i k fs
        split at h
        · rename_i ec
          obtain ⟨a1, C, dx, fv, e5, s1, e2, e3, q⟩ := r
          rw [ec] at e2
          obtain ⟨T1, T2⟩ := T.ok C e2
          split at h
          · rename_i d el
            obtain ⟨v1, l1, r1⟩ := q.get el
            exact ⟨a1, C, dx, fv, v1, e5, e3, T1, T2, l1, h v1 H1 s r1⟩
          · exact h.elim
        · exact h.elim
      · exact h.elim⟩
/-! ### arguments, displays -/
def LeafA (W : Wd) (Wx : WX) (L : Lc) (B : List Nat) (σ : L2.St) (H : Hp) (Q : List V → Hp → Prop) : Res (List D) → Prop
  | .stuck => False
  | .ok ds => ∀ vs H', Same H H' → Reps W H' (Fr L B) (obs L) ds vs → Q vs H'
  | .err e => ∀ cls dd H', Same H H' → Exc W H' e cls dd → Wx cls dd σ H'
abbrev MA := Env' → Store → Res (List D)
def tA (W : Wd) (Wx : WX) (B : List Nat) (m : MA) : TA := fun σ H Q => ∃ F ρ ω L, Rel W F ρ ω L σ H ∧ LeafA W Wx L B σ H Q (m ρ ω)
structure DA (X : Cx) (Wx : WX) (B : List Nat) (es : List Expr) (m : MA) : Prop where
  pa : PA X es (tA (wd X) Wx B m)
theorem PA.weak {es : List Expr} {t t' : TA} (h : PA X es t) (w : ∀ σ H Q, t' σ H Q → t σ H Q) : PA X es t' := ⟨fun pos pins s σ H Q I q => h.run pos pins s σ H Q I (w σ H Q q)⟩
@[simp] def aNil : MA := fun _ _ => .ok []
@[simp] def aCons (ma : M) (mr : MA) : MA := fun ρ ω => (ma ρ ω).bind fun x => (mr ρ ω).bind fun xs => .ok (x :: xs)
theorem a_nil : DA X Wx [] [] aNil := ⟨PA.weak pa_nil fun σ H Q ⟨F, ρ, ω, L, R, h⟩ => h [] H (Same.refl H) rfl⟩
theorem a_cons {es : List Expr} {mr : MA} (ha : DP X Wx Ba a ma) (hr : DA X Wx Bb es mr) (hs : starEach (a :: es) X.env = (false, eval a X.env) :: starEach es X.env := by rfl) : DA X Wx (Ba ++ Bb) (a :: es) (aCons ma mr) :=
  ⟨PA.weak (pa_cons ha.pe hr.pa hs) fun σ H Q ⟨F, ρ, ω, L, R, h⟩ => by
    refine ⟨F, ρ, ω, L, R, ?_⟩
    unfold aCons at h
    cases e : ma ρ ω with
    | stuck => rw [e] at h; exact h
    | err x => rw [e] at h; exact h
    | ok x =>
      rw [e] at h
      intro v H1 s r
      refine ⟨F, ρ, ω, L, R.same s, ?_⟩
      cases e2 : mr ρ ω with
      | stuck => rw [e2] at h; exact h
      | err x => rw [e2] at h; exact fun c d H' s' x => h c d H' (s.trans s') x
      | ok xs =>
        rw [e2] at h
        intro vs H2 s2 r2
        exact h (v :: vs) H2 (s.trans s2) ⟨v, vs, rfl, (r.same s2).wide subl, r2.wide subr⟩⟩
theorem LeafA.to {W : Wd} {L : Lc} {B B' : List Nat} {σ : L2.St} {H : Hp} {Q : List V → Hp → Prop} {Q' : VK} {r : Res (List D)} {k : List D → Res D} (h : Leaf W Wx L B' σ H Q' (r.bind k)) (hB : ∀ i ∈ B, i ∈ B')
    (hP : ∀ vs H1 ds, Same H H1 → Reps W H1 (Fr L B') (obs L) ds vs → Leaf W Wx L B' σ H1 Q' (k ds) → Q vs H1) : LeafA W Wx L B σ H Q r := by
  cases r with
  | stuck => exact h
  | err e => exact h
  | ok ds => exact fun vs H1 s q => hP vs H1 ds s (q.wide hB) (Leaf.to (r := k ds) h s subid fun _ _ q => q)
@[simp] def mTup (m : MA) : M := fun ρ ω => (m ρ ω).bind fun ds => if ds.length ≤ 1000 then .ok (.tup ds) else .stuck
theorem d_tup {es : List Expr} {m : MA} {k} (h : DA X Wx B es m) : DP X Wx B (.Tuple es k pos) (mTup m) :=
  ⟨PE.weak (pe_tup h.pa) fun σ H Q ⟨F, ρ, ω, L, R, h⟩ => ⟨F, ρ, ω, L, R, by
    refine LeafA.to (k := fun ds => if ds.length ≤ 1000 then .ok (.tup ds) else .stuck) h subid fun vs H1 ds s q l => ?_
    split at l
    · rename_i hl
      refine ⟨by rw [q.len, sizeLine_eq]; omega, fun z hz => ?_⟩
      have sm := same_upd (o := .tup vs) hz
      exact l.ret' sm ⟨z, vs, rfl, upd_same, q.same sm⟩
    · exact l.elim⟩⟩
/-! ### new containers, nobody's yet -/
/-- nobody's but B's, and not z -/
def Fn (L : Lc) (B : List Nat) (z : Addr) : Addr → Prop := fun b => Fr L B b ∧ b ≠ z
theorem kp_new {H : Hp} {L : Lc} {B : List Nat} {z : Addr} {o : HO} (hz : H z = none) : Kp H (upd H z o) (Fr L B) (Fn L B z) (obs L) (obs L) :=
  ⟨fun b u f h => ⟨f, ne_of_none h hz⟩, fun b u _ h => same_upd hz b u h, fun b xs h => same_upd hz b _ h, fun _ _ h => h⟩
theorem kp_fn {H : Hp} {L : Lc} {B : List Nat} {z : Addr} : Kp H H (Fn L B z) (Fr L B) (obs L) (obs L) := ⟨fun _ _ f _ => f.1, fun _ _ _ h => h, fun _ _ h => h, fun _ _ h => h⟩
def LeafF (W : Wd) (Wx : WX) (L : Lc) (B : List Nat) (σ : L2.St) (H : Hp) (Q : VK) : Res D → Prop
  | .stuck => False
  | .ok d => ∀ a H', Same H H' → H a = none → RepO W H' (Fn L B a) (obs L) true d a → Q (.ref a) H'
  | .err e => ∀ cls dd H', Same H H' → Exc W H' e cls dd → Wx cls dd σ H'
def tF (W : Wd) (Wx : WX) (B : List Nat) (m : M) : TE := fun σ H Q => ∃ F ρ ω L, Rel W F ρ ω L σ H ∧ LeafF W Wx L B σ H Q (m ρ ω)
structure DF (X : Cx) (Wx : WX) (B : List Nat) (e : Expr) (m : M) : Prop where
  pe : PE X e (tF (wd X) Wx B m)
theorem RepO.rep {W : Wd} {H : Hp} {L : Lc} {B : List Nat} {ex : Bool} : ∀ {d : D} {a : Addr}, RepO W H (Fn L B a) (obs L) ex d a → Fr L B a → Rep W H (Fr L B) (obs L) d (.ref a)
  | .lst xs, a, ⟨vs, h, q⟩, f => ⟨a, vs, rfl, f, h, Reps.mono kp_fn _ _ q⟩
  | .dK xs, a, ⟨vs, h, q⟩, f => ⟨a, vs, rfl, f, h.rd, RepK.mono kp_fn _ _ q⟩
  | .dT xs, a, ⟨vs, h, q⟩, f => ⟨a, vs, rfl, f, h.rd, RepT.mono kp_fn _ _ q⟩
  | .non, _, h, _ | .bl _, _, h, _ | .int _, _, h, _ | .str _, _, h, _ | .tup _, _, h, _ | .ctup _, _, h, _ | .ins _ _, _, h, _ | .obj _, _, h, _ => h.elim
theorem DF.dp {e : Expr} {m : M} (h : DF X Wx B e m) : DP X Wx B e m := ⟨PE.weak h.pe fun σ H Q ⟨F, ρ, ω, L, R, h⟩ => ⟨F, ρ, ω, L, R, by
  cases z : m ρ ω with
  | stuck => rw [z] at h; exact h
  | err x => rw [z] at h; exact h
  | ok x => rw [z] at h; exact fun a H1 s n r => h _ H1 s (r.rep (R.al.fr n B))⟩⟩
theorem LeafF.ret {W : Wd} {L : Lc} {σ : L2.St} {H H' : Hp} {Q : VK} {d : D} {a : Addr} (h : LeafF W Wx L B σ H Q (.ok d)) (s : Same H H') (n : H a = none) (r : RepO W H' (Fn L B a) (obs L) true d a) : Q (.ref a) H' := h a H' s n r
@[simp] def mLst (m : MA) : M := fun ρ ω => (m ρ ω).bind fun ds => if ds.length ≤ 1000 then .ok (.lst ds) else .stuck
theorem f_lst {es : List Expr} {m : MA} (h : DA X Wx B es m) : DF X Wx B (.List es pos) (mLst m) :=
  ⟨PE.weak (pe_lst h.pa) fun σ H Q ⟨F, ρ, ω, L, R, h⟩ => ⟨F, ρ, ω, L, R, by
    unfold mLst at h
    cases e : m ρ ω with
    | stuck => rw [e] at h; exact h
    | err x => rw [e] at h; exact h
    | ok ds =>
      rw [e] at h
      have h : LeafF (wd X) Wx L B σ H Q (if ds.length ≤ 1000 then .ok (.lst ds) else .stuck) := h
      intro vs H1 s q
      split at h
      · rename_i hl
        refine ⟨by rw [q.len, sizeLine_eq]; omega, fun z hz => ?_⟩
        have sm := same_upd (o := .lst vs) hz
        exact h.ret (s.trans sm) (s.free hz) ⟨vs, upd_same, Reps.mono (kp_new hz) _ _ q⟩
      · exact h.elim⟩⟩
theorem f_dK : DF X Wx [] (.Dict [] [] pos) (mC (.dK [])) :=
  ⟨PE.weak pe_dnewK fun σ H Q ⟨F, ρ, ω, L, R, h⟩ => fun z hz => LeafF.ret h (same_upd hz) hz ⟨[], .of upd_same, rfl⟩⟩
theorem f_dT : DF X Wx [] (.Dict [] [] pos) (mC (.dT [])) :=
  ⟨PE.weak pe_dnewT fun σ H Q ⟨F, ρ, ω, L, R, h⟩ => fun z hz => LeafF.ret h (same_upd hz) hz ⟨[], .of upd_same, rfl⟩⟩
end
end DL
namespace DL
open PySem PySem.Spec PyProof.Rows L2

def LfC (W : Wd) (g : D → Res D) (r : List V → Hp → VK → Prop) : Prop := ∀ (Wx : WX) (L : Lc) (B : List Nat) (σ : L2.St) (H : Hp) (Q : VK) (x : D) (v : V), Al L H → RepU W H (Fr L B) (obs L) x v → Leaf W Wx L B σ H Q (g x) → r [v] H Q
def LfC2 (W : Wd) (g : D → D → Res D) (r : List V → Hp → VK → Prop) : Prop := ∀ (Wx : WX) (L : Lc) (B : List Nat) (σ : L2.St) (H : Hp) (Q : VK) (x y : D) (v w : V), Al L H → RepU W H (Fr L B) (obs L) x v → RepU W H (Fr L B) (obs L) y w → Leaf W Wx L B σ H Q (g x y) → r [v, w] H Q
def LfCF (W : Wd) (g : D → Res D) (r : List V → Hp → VK → Prop) : Prop := ∀ (Wx : WX) (L : Lc) (B : List Nat) (σ : L2.St) (H : Hp) (Q : VK) (x : D) (v : V), RepU W H (Fr L B) (obs L) x v → LeafF W Wx L B σ H Q (g x) → r [v] H Q
theorem LeafF.to {W : Wd} {Wx : WX} {L : Lc} {B : List Nat} {σ : L2.St} {H H' : Hp} {Q : VK} {r : Res D} (h : LeafF W Wx L B σ H Q r) (s : Same H H') : LeafF W Wx L B σ H' Q r := by
  cases r with
  | stuck => exact h
  | ok d => exact fun a H2 s2 n r => h a H2 (s.trans s2) (s.free n) r
  | err e => exact fun c d H2 s2 r => h c d H2 (s.trans s2) r
section
variable {X : Cx} {Wx : WX} {pos p : Pos} {a b c : Expr} {Ba Bb Bc B : List Nat} {ma mb mc : M} {x f : Str} {id T : String} {r : List V → Hp → VK → Prop} {g : D → Res D} {g2 : D → D → Res D}
theorem part1f {W : Wd} {F : Fm} {ρ : Env'} {ω : Store} {L : Lc} {σ : L2.St} {H : Hp} {Q : VK} {B Ba : List Nat} {ma : M} {k : D → Res D} (hB : ∀ i ∈ Ba, i ∈ B) (R : Rel W F ρ ω L σ H) (h : LeafF W Wx L B σ H Q ((ma ρ ω).bind k)) {P : VK}
    (hP : ∀ v H1 x, Same H H1 → Rel W F ρ ω L σ H1 → RepU W H1 (Fr L B) (obs L) x v → LeafF W Wx L B σ H1 Q (k x) → P v H1) : tU W Wx Ba ma σ H P := by
  refine ⟨F, ρ, ω, L, R, ?_⟩
  cases e : ma ρ ω with
  | stuck => rw [e] at h; exact h
  | err x => rw [e] at h; exact h
  | ok x =>
    rw [e] at h
    exact fun v H1 s r => hP v H1 x s (R.same s) (r.wide hB) (h.to s)
theorem d_callB1 (hc : CallR X (.builtin id) r) (hl : LfC (wd X) g r) (hg : Gl X x) (hm : X.mg x = none) (hv : bootBuiltins x = some (.builtin id)) (ha : DU X Wx Ba a ma) (hn : x ≠ "__name__" := by decide) (hdb : (x == ("__debug__" : Str)) = false := by decide)
    (he : starEach [a] X.env = (false, eval a X.env) :: starEach [] X.env := by rfl) (hpl : (backTo pos (starEach [] X.env)).any (·.1) = false := by rfl) : DP X Wx Ba (.Call (.Name x p) [a] [] pos) (m1 ma g) :=
  ⟨PE.weak (pe_callB hc hg hm hv (pa_cons ha.pe pa_nil he) hn hdb he hpl) fun σ H Q ⟨F, ρ, ω, L, R, h⟩ => part1 subid R h fun v H1 x s R1 q l => hl Wx L Ba σ H1 Q x v R1.al q l⟩
theorem d_callT1 (hc : CallR X (.type T) r) (hl : LfC (wd X) g r) (hg : Gl X x) (hm : X.mg x = none) (hv : bootBuiltins x = some (.type T)) (ha : DU X Wx Ba a ma) (hn : x ≠ "__name__" := by decide) (hdb : (x == ("__debug__" : Str)) = false := by decide)
    (he : starEach [a] X.env = (false, eval a X.env) :: starEach [] X.env := by rfl) (hpl : (backTo pos (starEach [] X.env)).any (·.1) = false := by rfl) : DP X Wx Ba (.Call (.Name x p) [a] [] pos) (m1 ma g) :=
  ⟨PE.weak (pe_callTy hc hg hm hv (pa_cons ha.pe pa_nil he) hn hdb he hpl) fun σ H Q ⟨F, ρ, ω, L, R, h⟩ => part1 subid R h fun v H1 x s R1 q l => hl Wx L Ba σ H1 Q x v R1.al q l⟩
theorem f_callB1 (hc : CallR X (.builtin id) r) (hl : LfCF (wd X) g r) (hg : Gl X x) (hm : X.mg x = none) (hv : bootBuiltins x = some (.builtin id)) (ha : DU X Wx Ba a ma) (hn : x ≠ "__name__" := by decide) (hdb : (x == ("__debug__" : Str)) = false := by decide)
    (he : starEach [a] X.env = (false, eval a X.env) :: starEach [] X.env := by rfl) (hpl : (backTo pos (starEach [] X.env)).any (·.1) = false := by rfl) : DF X Wx Ba (.Call (.Name x p) [a] [] pos) (m1 ma g) :=
  ⟨PE.weak (pe_callB hc hg hm hv (pa_cons ha.pe pa_nil he) hn hdb he hpl) fun σ H Q ⟨F, ρ, ω, L, R, h⟩ => part1f subid R h fun v H1 x s R1 q l => hl Wx L Ba σ H1 Q x v q l⟩
theorem f_callT1 (hc : CallR X (.type T) r) (hl : LfCF (wd X) g r) (hg : Gl X x) (hm : X.mg x = none) (hv : bootBuiltins x = some (.type T)) (ha : DU X Wx Ba a ma) (hn : x ≠ "__name__" := by decide) (hdb : (x == ("__debug__" : Str)) = false := by decide)
    (he : starEach [a] X.env = (false, eval a X.env) :: starEach [] X.env := by rfl) (hpl : (backTo pos (starEach [] X.env)).any (·.1) = false := by rfl) : DF X Wx Ba (.Call (.Name x p) [a] [] pos) (m1 ma g) :=
  ⟨PE.weak (pe_callTy hc hg hm hv (pa_cons ha.pe pa_nil he) hn hdb he hpl) fun σ H Q ⟨F, ρ, ω, L, R, h⟩ => part1f subid R h fun v H1 x s R1 q l => hl Wx L Ba σ H1 Q x v q l⟩
theorem d_callB2 (hc : CallR X (.builtin id) r) (hl : LfC2 (wd X) g2 r) (hg : Gl X x) (hm : X.mg x = none) (hv : bootBuiltins x = some (.builtin id)) (ha : DU X Wx Ba a ma) (hb : DU X Wx Bb b mb) (hn : x ≠ "__name__" := by decide) (hdb : (x == ("__debug__" : Str)) = false := by decide)
    (he : starEach [a, b] X.env = (false, eval a X.env) :: starEach [b] X.env := by rfl) (he2 : starEach [b] X.env = (false, eval b X.env) :: starEach [] X.env := by rfl) (hpl : (backTo pos (starEach [b] X.env)).any (·.1) = false := by rfl) : DP X Wx (Ba ++ Bb) (.Call (.Name x p) [a, b] [] pos) (m2 ma mb g2) :=
  ⟨PE.weak (pe_callB hc hg hm hv (pa_cons ha.pe (pa_cons hb.pe pa_nil he2) he) hn hdb he hpl) fun σ H Q ⟨F, ρ, ω, L, R, h⟩ => part2 subl subr R h fun v w H1 x y s R1 q q2 l => hl Wx L (Ba ++ Bb) σ H1 Q x y v w R1.al q q2 l⟩
/-! abs, min, max -/
@[simp] def gAbs : D → Res D
  | .int i => .ok (.int (if i < 0 then -i else i))
  | _ => .stuck
@[simp] def gMax2 : D → D → Res D
  | .int i, .int j => .ok (.int (if j > i then j else i))
  | _, _ => .stuck
@[simp] def gMin2 : D → D → Res D
  | .int i, .int j => .ok (.int (if j < i then j else i))
  | _, _ => .stuck
theorem lf_abs {W : Wd} : LfC W gAbs (fun xs H Q => ∃ i, xs = [.int i] ∧ Q (.int (if i < 0 then -i else i)) H) := by
  intro Wx L B σ H Q x v al q l
  unfold gAbs at l
  split at l
  · exact ⟨_, by rw [show v = .int _ from q], l.ret rfl⟩
  · exact l.elim
theorem lf_max2 {W : Wd} : LfC2 W gMax2 (fun xs H Q => ∃ i j, xs = [.int i, .int j] ∧ Q (.int (if j > i then j else i)) H) := by
  intro Wx L B σ H Q x y v w al p q l
  unfold gMax2 at l
  split at l
  · exact ⟨_, _, by rw [show v = .int _ from p, show w = .int _ from q], l.ret rfl⟩
  · exact l.elim
theorem lf_min2 {W : Wd} : LfC2 W gMin2 (fun xs H Q => ∃ i j, xs = [.int i, .int j] ∧ Q (.int (if j < i then j else i)) H) := by
  intro Wx L B σ H Q x y v w al p q l
  unfold gMin2 at l
  split at l
  · exact ⟨_, _, by rw [show v = .int _ from p, show w = .int _ from q], l.ret rfl⟩
  · exact l.elim
theorem d_abs (hg : Gl X "abs") (hm : X.mg "abs" = none) (ha : DU X Wx Ba a ma) (he : starEach [a] X.env = (false, eval a X.env) :: starEach [] X.env := by rfl) : DP X Wx Ba (.Call (.Name "abs" p) [a] [] pos) (m1 ma gAbs) := d_callB1 call_abs lf_abs hg hm (by decide +kernel) ha (he := he)
theorem d_max2 (hc : X.calm = true) (hg : Gl X "max") (hm : X.mg "max" = none) (ha : DU X Wx Ba a ma) (hb : DU X Wx Bb b mb) (he : starEach [a, b] X.env = (false, eval a X.env) :: starEach [b] X.env := by rfl) (he2 : starEach [b] X.env = (false, eval b X.env) :: starEach [] X.env := by rfl) (hpl : (backTo pos (starEach [b] X.env)).any (·.1) = false := by rfl) :
    DP X Wx (Ba ++ Bb) (.Call (.Name "max" p) [a, b] [] pos) (m2 ma mb gMax2) := d_callB2 (call_max2 hc) lf_max2 hg hm (by decide +kernel) ha hb (he := he) (he2 := he2) (hpl := hpl)
theorem d_min2 (hc : X.calm = true) (hg : Gl X "min") (hm : X.mg "min" = none) (ha : DU X Wx Ba a ma) (hb : DU X Wx Bb b mb) (he : starEach [a, b] X.env = (false, eval a X.env) :: starEach [b] X.env := by rfl) (he2 : starEach [b] X.env = (false, eval b X.env) :: starEach [] X.env := by rfl) (hpl : (backTo pos (starEach [b] X.env)).any (·.1) = false := by rfl) :
    DP X Wx (Ba ++ Bb) (.Call (.Name "min" p) [a, b] [] pos) (m2 ma mb gMin2) := d_callB2 (call_min2 hc) lf_min2 hg hm (by decide +kernel) ha hb (he := he) (he2 := he2) (hpl := hpl)
/-! len -/
@[simp] noncomputable def gLen : D → Res D
  | .lst xs => .ok (.int xs.length)
  | .tup xs => .ok (.int xs.length)
  | .dK xs => .ok (.int xs.length)
  | .str s => @ite _ (s.length ≤ 16777216) (Classical.propDecidable _) (.ok (.int s.length)) .stuck
  | _ => .stuck
theorem repK_len {W : Wd} {H : Hp} {S : Addr → Prop} {ob : Nat → Option Addr} : ∀ {ds : List (Key × D)} {vs : List (Key × V)}, RepK W H S ob ds vs → vs.length = ds.length
  | [], _, h => by rw [show _ = [] from h]; rfl
  | (k, d) :: ds, _, h => by
    obtain ⟨v, r, e, p, q⟩ := h
    rw [e, List.length_cons, List.length_cons, repK_len q]
abbrev rLen4 (K : PySem.W.Frag) : List V → Hp → VK → Prop := fun xs H Q => (∃ p ys, xs = [.ref p] ∧ (SqL K H p ys ∨ SqT K H p ys) ∧ Q (.int ys.length) H) ∨ ((∃ z, xs = [.str z] ∧ z.length ≤ sizeLine ∧ Q (.int z.length) H) ∨ ∃ a kvs, xs = [V.ref a] ∧ Rd H a (.dK kvs) ∧ Q (.int kvs.length) H)
theorem call_lenR : CallR X (.builtin "len") (fun xs H Q => ∃ a kvs, xs = [V.ref a] ∧ Rd H a (.dK kvs) ∧ Q (.int kvs.length) H) := by
  intro pins s σ H xs us Q I r h
  obtain ⟨a, kvs, rfl, ha, q⟩ := h
  obtain ⟨u, rfl, ru⟩ := vals1 r
  cases ru
  exact L2.d_len I ha fun t s' I' => ⟨.int kvs.length, H, I', ⟨t, rfl⟩, q⟩
theorem call_len4 : CallR X (.builtin "len") (rLen4 X.K) := call_len_seq.or (call_len_str.or call_lenR)
theorem lf_len {W : Wd} : LfC W gLen (rLen4 W.K) := by
  intro Wx L B σ H Q x v al q l
  unfold gLen at l
  split at l
  · obtain ⟨a, vs, e, h, r⟩ := q
    exact .inl ⟨a, vs, by rw [e], .inl (.of h), by rw [r.len]; exact l.ret rfl⟩
  · obtain ⟨a, vs, e, h, r⟩ := q
    exact .inl ⟨a, vs, by rw [e], .inr (.of h), by rw [r.len]; exact l.ret rfl⟩
  · obtain ⟨a, vs, e, h, r⟩ := q
    exact .inr (.inr ⟨a, vs, by rw [e], h, by rw [repK_len r]; exact l.ret rfl⟩)
  · split at l
    · rename_i z hz
      exact .inr (.inl ⟨_, by rw [show v = .str _ from q], by rw [sizeLine_eq]; exact hz, l.ret rfl⟩)
    · exact l.elim
  · exact l.elim
theorem d_len (hg : Gl X "len") (hm : X.mg "len" = none) (ha : DU X Wx Ba a ma) (he : starEach [a] X.env = (false, eval a X.env) :: starEach [] X.env := by rfl) : DP X Wx Ba (.Call (.Name "len" p) [a] [] pos) (m1 ma gLen) := d_callB1 call_len4 lf_len hg hm boot_len ha (he := he)
/-! str, int -/
@[simp] def gStr : D → Res D
  | .int i => if i.natAbs.log2 < 1920 then .ok (.str (toString i)) else .stuck
  | .str s => .ok (.str s)
  | _ => .stuck
abbrev rStr2 : List V → Hp → VK → Prop := fun xs H Q => (∃ i, xs = [.int i] ∧ i.natAbs.log2 < 1920 ∧ Q (.str (toString i)) H) ∨ ∃ a, xs = [.str a] ∧ Q (.str a) H
theorem call_str2 : CallR X (.type "str") rStr2 := call_str_int.or SkE.call_str_str
theorem lf_str {W : Wd} : LfC W gStr rStr2 := by
  intro Wx L B σ H Q x v al q l
  unfold gStr at l
  split at l
  · split at l
    · rename_i h
      exact .inl ⟨_, by rw [show v = .int _ from q], h, l.ret rfl⟩
    · exact l.elim
  · exact .inr ⟨_, by rw [show v = .str _ from q], l.ret rfl⟩
  · exact l.elim
theorem d_strc (hg : Gl X "str") (hm : X.mg "str" = none) (ha : DU X Wx Ba a ma) (he : starEach [a] X.env = (false, eval a X.env) :: starEach [] X.env := by rfl) : DP X Wx Ba (.Call (.Name "str" p) [a] [] pos) (m1 ma gStr) := d_callT1 call_str2 lf_str hg hm (by decide +kernel) ha (he := he)
def gInt1 : D → Res D
  | .int i => .ok (.int i)
  | .bl k => .ok (.int (if k = true then 1 else 0))
  | .str s => (match PySem.intText? s with
    | some n => if s.length ≤ 640 then .ok (.int n) else .stuck
    | none => .stuck)
  | _ => .stuck
abbrev rInt2 : List V → Hp → VK → Prop := fun xs H Q => ((∃ i, xs = [.int i] ∧ Q (.int i) H) ∨ ∃ k, xs = [.bl k] ∧ Q (.int (if k then 1 else 0)) H) ∨ ∃ a n, xs = [.str a] ∧ PySem.intText? a = some n ∧ a.length ≤ 640 ∧ Q (.int n) H
theorem lf_int1 {W : Wd} : LfC W gInt1 rInt2 := by
  intro Wx L B σ H Q x v al q l
  unfold gInt1 at l
  split at l
  · exact .inl (.inl ⟨_, by rw [show v = .int _ from q], l.ret rfl⟩)
  · exact .inl (.inr ⟨_, by rw [show v = .bl _ from q], l.ret rfl⟩)
  · split at l
    · rename_i n e
      split at l
      · rename_i h
        exact .inr ⟨_, n, by rw [show v = .str _ from q], e, h, l.ret rfl⟩
      · exact l.elim
    · exact l.elim
  · exact l.elim
theorem d_intc (hg : Gl X "int") (hm : X.mg "int" = none) (ha : DU X Wx Ba a ma) (he : starEach [a] X.env = (false, eval a X.env) :: starEach [] X.env := by rfl) : DP X Wx Ba (.Call (.Name "int" p) [a] [] pos) (m1 ma gInt1) := d_callT1 (call_int1.or call_int_str) lf_int1 hg hm (by decide +kernel) ha (he := he)
/-! list, dict -/
@[simp] def gList : D → Res D
  | .lst xs => .ok (.lst xs)
  | .tup xs => .ok (.lst xs)
  | .dK kvs => .ok (.lst (kvs.map fun kv => match kv.1 with
    | .inl i => .int i
    | .inr s => .str s))
  | _ => .stuck
def kD : Key → D
  | .inl i => .int i
  | .inr s => .str s
theorem reps_keys {W : Wd} {H : Hp} {S : Addr → Prop} {ob : Nat → Option Addr} : ∀ {ds : List (Key × D)} {vs : List (Key × V)}, RepK W H S ob ds vs → Reps W H S ob (ds.map fun kv => match kv.1 with
    | .inl i => .int i
    | .inr s => .str s) (vs.map fun kv => kV kv.1)
  | [], _, h => by rw [show _ = [] from h]; rfl
  | (.inl k, d) :: ds, _, h => by
    obtain ⟨v, r, e, p, q⟩ := h
    rw [e]
    exact ⟨_, _, rfl, rfl, reps_keys q⟩
  | (.inr k, d) :: ds, _, h => by
    obtain ⟨v, r, e, p, q⟩ := h
    rw [e]
    exact ⟨_, _, rfl, rfl, reps_keys q⟩
abbrev rList3 (K : PySem.W.Frag) : List V → Hp → VK → Prop := fun xs H Q => (∃ p ys, xs = [.ref p] ∧ (SqL K H p ys ∨ SqT K H p ys) ∧ ∀ l, H l = none → Q (.ref l) (upd H l (.lst ys))) ∨ ∃ (a : Addr) (kvs : List (Key × V)), xs = [.ref a] ∧ Rd H a (.dK kvs) ∧ ∀ p, H p = none → Q (.ref p) (upd H p (.lst (kvs.map fun kv => kV kv.1)))
theorem lf_list {W : Wd} : LfCF W gList (rList3 W.K) := by
  intro Wx L B σ H Q x v q l
  unfold gList at l
  split at l
  · obtain ⟨a, vs, e, h, r⟩ := q
    exact .inl ⟨a, vs, by rw [e], .inl (.of h), fun z hz => l.ret (same_upd hz) hz ⟨vs, upd_same, Reps.mono (kp_new hz) _ _ r⟩⟩
  · obtain ⟨a, vs, e, h, r⟩ := q
    exact .inl ⟨a, vs, by rw [e], .inr (.of h), fun z hz => l.ret (same_upd hz) hz ⟨vs, upd_same, Reps.mono (kp_new hz) _ _ r⟩⟩
  · obtain ⟨a, vs, e, h, r⟩ := q
    exact .inr ⟨a, vs, by rw [e], h, fun z hz => l.ret (same_upd hz) hz ⟨_, upd_same, Reps.mono (kp_new hz) _ _ (reps_keys r)⟩⟩
  · exact l.elim
theorem f_list (hc : X.calm = true) (hg : Gl X "list") (hm : X.mg "list" = none) (ha : DU X Wx Ba a ma) (he : starEach [a] X.env = (false, eval a X.env) :: starEach [] X.env := by rfl) : DF X Wx Ba (.Call (.Name "list" p) [a] [] pos) (m1 ma gList) := f_callT1 (call_list_of.or (call_listD hc)) lf_list hg hm (by decide +kernel) ha (he := he)
def gDict : D → Res D
  | .dK kvs => .ok (.dK kvs)
  | _ => .stuck
theorem lf_dict {W : Wd} : LfCF W gDict (fun xs H Q => ∃ (a : Addr) (kvs : List (Key × V)), xs = [.ref a] ∧ Rd H a (.dK kvs) ∧ ∀ p, H p = none → Q (.ref p) (upd H p (.dK kvs))) := by
  intro Wx L B σ H Q x v q l
  unfold gDict at l
  split at l
  · obtain ⟨a, vs, e, h, r⟩ := q
    exact ⟨a, vs, by rw [e], h, fun z hz => l.ret (same_upd hz) hz ⟨vs, .of upd_same, RepK.mono (kp_new hz) _ _ r⟩⟩
  · exact l.elim
theorem f_dict (hg : Gl X "dict") (hm : X.mg "dict" = none) (ha : DU X Wx Ba a ma) (he : starEach [a] X.env = (false, eval a X.env) :: starEach [] X.env := by rfl) : DF X Wx Ba (.Call (.Name "dict" p) [a] [] pos) (m1 ma gDict) := f_callT1 call_dictD lf_dict hg hm (by decide +kernel) ha (he := he)
/-! sorted -/
def insI (x : Int) : List Int → List Int
  | [] => [x]
  | y :: r => if x ≤ y then x :: y :: r else y :: insI x r
def srtI : List Int → List Int
  | [] => []
  | x :: r => insI x (srtI r)
theorem insI_perm (x : Int) : ∀ l : List Int, (insI x l).Perm (x :: l)
  | [] => List.Perm.refl _
  | y :: r => by
    unfold insI
    split
    · exact List.Perm.refl _
    · exact ((insI_perm x r).cons y).trans (List.Perm.swap x y r)
theorem srtI_perm : ∀ l : List Int, (srtI l).Perm l
  | [] => List.Perm.refl _
  | x :: r => (insI_perm x _).trans ((srtI_perm r).cons x)
theorem insI_up (x : Int) : ∀ l : List Int, l.Pairwise (· ≤ ·) → (insI x l).Pairwise (· ≤ ·)
  | [], _ => by simp [insI]
  | y :: r, h => by
    unfold insI
    split
    · rename_i hxy
      refine List.pairwise_cons.mpr ⟨fun z hz => ?_, h⟩
      rcases List.mem_cons.mp hz with rfl | hz
      · exact hxy
      · exact Int.le_trans hxy ((List.pairwise_cons.mp h).1 z hz)
    · rename_i hxy
      refine List.pairwise_cons.mpr ⟨fun z hz => ?_, insI_up x r (List.pairwise_cons.mp h).2⟩
      rcases List.mem_cons.mp ((insI_perm x r).mem_iff.mp hz) with rfl | hz
      · omega
      · exact (List.pairwise_cons.mp h).1 z hz
theorem srtI_up : ∀ l : List Int, (srtI l).Pairwise (· ≤ ·)
  | [] => List.Pairwise.nil
  | x :: r => insI_up x _ (srtI_up r)
theorem sorted_eq {a b : List Int} (h : a.Perm b) (ha : a.Pairwise (· ≤ ·)) (hb : b.Pairwise (· ≤ ·)) : a = b :=
  List.Perm.eq_of_pairwise (le := (· ≤ ·)) (fun x y _ _ h1 h2 => Int.le_antisymm h1 h2) ha hb h
def gSorted : D → Res D
  | .lst xs => (match D.ints? xs with
    | some ns => .ok (.lst ((srtI ns).map .int))
    | none => .stuck)
  | .dK kvs => (match D.ints? (kvs.map fun kv => kD kv.1) with
    | some ns => if ns.length < 64 then .ok (.lst ((srtI ns).map .int)) else .stuck
    | none => .stuck)
  | _ => .stuck
abbrev rSorted2 (K : PySem.W.Frag) : List V → Hp → VK → Prop := fun xs H Q => rSortedI K xs H Q ∨ ∃ (a : Addr) (kvs : List (Key × V)) (ks : List Int), xs = [.ref a] ∧ Rd H a (.dK kvs) ∧ kvs.map (·.1) = ks.map Sum.inl ∧ ks.length < 64 ∧
    ∀ (ys : List Int) (p : Addr), ys.Perm ks → ys.Pairwise (· ≤ ·) → H p = none → Q (.ref p) (upd H p (.lst (ys.map V.int)))
theorem keysI : ∀ {kvs : List (Key × D)} {ns : List Int}, D.ints? (kvs.map fun kv => kD kv.1) = some ns → kvs.map (·.1) = ns.map Sum.inl
  | [], ns, h => by cases h; rfl
  | (.inl i, d) :: r, ns, h => by
    have h : (D.ints? (r.map fun kv => kD kv.1)).map (i :: ·) = some ns := h
    cases e : D.ints? (r.map fun kv => kD kv.1) with
    | none => rw [e] at h; cases h
    | some q =>
      rw [e] at h
      have e2 : i :: q = ns := Option.some.inj h
      rw [← e2, List.map_cons, keysI e]; rfl
  | (.inr i, d) :: r, ns, h => by cases h
theorem repK_keys {W : Wd} {H : Hp} {S : Addr → Prop} {ob : Nat → Option Addr} : ∀ {ds : List (Key × D)} {vs : List (Key × V)}, RepK W H S ob ds vs → vs.map (·.1) = ds.map (·.1)
  | [], _, h => by rw [show _ = [] from h]; rfl
  | (k, d) :: ds, _, h => by
    obtain ⟨v, r, e, p, q⟩ := h
    rw [e, List.map_cons, List.map_cons, repK_keys q]
theorem lf_sorted {W : Wd} : LfCF W gSorted (rSorted2 W.K) := by
  intro Wx L B σ H Q x v q l
  unfold gSorted at l
  split at l
  · split at l
    · rename_i ns e
      obtain ⟨a, vs, e1, h, r⟩ := q
      rw [D.ints_some e] at r
      refine .inl ⟨a, ns, by rw [e1], .of (by rw [← Reps.ints r]; exact h), fun ys z hp hs hz => ?_⟩
      rw [sorted_eq (hp.trans (srtI_perm ns).symm) hs (srtI_up ns)]
      exact l.ret (same_upd hz) hz ⟨_, upd_same, Reps.ofInts _⟩
    · exact l.elim
  · split at l
    · rename_i ns e
      split at l
      · rename_i h64
        obtain ⟨a, vs, e1, h, r⟩ := q
        refine .inr ⟨a, vs, ns, by rw [e1], h, by rw [repK_keys r]; exact keysI e, h64, fun ys z hp hs hz => ?_⟩
        rw [sorted_eq (hp.trans (srtI_perm ns).symm) hs (srtI_up ns)]
        exact l.ret (same_upd hz) hz ⟨_, upd_same, Reps.ofInts _⟩
      · exact l.elim
    · exact l.elim
  · exact l.elim
theorem f_sorted (hc : X.calm = true) (hg : Gl X "sorted") (hm : X.mg "sorted" = none) (ha : DU X Wx Ba a ma) (he : starEach [a] X.env = (false, eval a X.env) :: starEach [] X.env := by rfl) : DF X Wx Ba (.Call (.Name "sorted" p) [a] [] pos) (m1 ma gSorted) := f_callB1 (cr_sortedI.or (call_sortedDI hc)) lf_sorted hg hm (by decide +kernel) ha (he := he)
/-! all, any of a list; min of a list -/
@[simp] def gAll : D → Res D
  | .lst xs => (match D.bls? xs with
    | some bs => .ok (.bl (bs.all _root_.id))
    | none => .stuck)
  | _ => .stuck
theorem lf_all {W : Wd} : LfC W gAll (rAll W.K) := by
  intro Wx L B σ H Q x v al q l
  unfold gAll at l
  split at l
  · split at l
    · rename_i bs e
      obtain ⟨a, vs, e1, h, r⟩ := q
      rw [D.bls_some e] at r
      exact ⟨a, bs, by rw [e1], .of (by rw [← Reps.bls r]; exact h), l.ret rfl⟩
    · exact l.elim
  · exact l.elim
theorem d_all (hc : X.calm = true) (hg : Gl X "all") (hm : X.mg "all" = none) (ha : DU X Wx Ba a ma) (he : starEach [a] X.env = (false, eval a X.env) :: starEach [] X.env := by rfl) : DP X Wx Ba (.Call (.Name "all" p) [a] [] pos) (m1 ma gAll) := d_callB1 (cr_all hc) lf_all hg hm (by decide +kernel) ha (he := he)
def gMinL : D → Res D
  | .lst xs => (match D.ints? xs with
    | some (n :: ns) => .ok (.int ((n :: ns).foldl (fun a b => if b < a then b else a) n))
    | _ => .stuck)
  | _ => .stuck
theorem foldmin_le : ∀ (l : List Int) (a : Int), l.foldl (fun a b => if b < a then b else a) a ≤ a ∧ (∀ y ∈ l, l.foldl (fun a b => if b < a then b else a) a ≤ y) ∧ (l.foldl (fun a b => if b < a then b else a) a = a ∨ l.foldl (fun a b => if b < a then b else a) a ∈ l)
  | [], a => ⟨Int.le_refl _, fun y h => by simp at h, .inl rfl⟩
  | b :: l, a => by
    obtain ⟨h1, h2, h3⟩ := foldmin_le l (if b < a then b else a)
    rw [List.foldl_cons]
    refine ⟨?_, fun y hy => ?_, ?_⟩
    · refine Int.le_trans h1 ?_
      split <;> omega
    · rcases List.mem_cons.mp hy with rfl | hy
      · refine Int.le_trans h1 ?_
        split <;> omega
      · exact h2 y hy
    · rcases h3 with h3 | h3
      · rw [h3]
        split
        · exact .inr List.mem_cons_self
        · exact .inl rfl
      · exact .inr (List.mem_cons_of_mem _ h3)
theorem lf_minL {W : Wd} : LfC W gMinL (rMin W.K) := by
  intro Wx L B σ H Q x v al q l
  unfold gMinL at l
  split at l
  · split at l
    · rename_i n ns e
      obtain ⟨a, vs, e1, h, r⟩ := q
      rw [D.ints_some e] at r
      refine ⟨a, n :: ns, by rw [e1], .of (by rw [← Reps.ints r]; exact h), by simp, fun m hm hle => ?_⟩
      obtain ⟨h1, h2, h3⟩ := foldmin_le (n :: ns) n
      have em : m = (n :: ns).foldl (fun a b => if b < a then b else a) n := by
        have a1 := h2 m hm
        have a2 : m ≤ (n :: ns).foldl (fun a b => if b < a then b else a) n := by
          rcases h3 with h3 | h3
          · rw [h3]; exact hle n List.mem_cons_self
          · exact hle _ h3
        omega
      rw [em]
      exact l.ret rfl
    · exact l.elim
  · exact l.elim
theorem d_minL (hc : X.calm = true) (hg : Gl X "min") (hm : X.mg "min" = none) (ha : DU X Wx Ba a ma) (he : starEach [a] X.env = (false, eval a X.env) :: starEach [] X.env := by rfl) : DP X Wx Ba (.Call (.Name "min" p) [a] [] pos) (m1 ma gMinL) := d_callB1 (cr_min hc) lf_minL hg hm (by decide +kernel) ha (he := he)
/-! isinstance of a built-in class -/
@[simp] def D.tyN : D → Option String
  | .non => some "NoneType"
  | .bl _ => some "bool"
  | .int _ => some "int"
  | .str _ => some "str"
  | .lst _ => some "list"
  | .tup _ => some "tuple"
  | _ => none
def gIsi (T : String) (x : D) : Res D := match D.tyN x with
  | some n => (match kitB n T with
    | some b => .ok (.bl b)
    | none => .stuck)
  | none => .stuck
end
end DL
namespace DL
open PySem PySem.Spec PyProof.Rows L2

/-! ### statements: what they leave -/
inductive RS where
  | stuck
  | nx (ρ : Env') (ω : Store)
  | rt (d : D) (ω : Store)
  | bk (ρ : Env') (ω : Store)
  | ct (ρ : Env') (ω : Store)
  | er (e : Er) (ω : Store)
abbrev T := Nat → Env' → Store → RS
def FrA (L : Lc) : Addr → Prop := fun a => ∀ p, L p = some a → ∃ i, p = .sl i
def LeafS (W : Wd) (Wx : WX) (F : Fm) (G : Ends) : RS → Prop
  | .stuck => False
  | .nx ρ ω => ∀ σ H L, Rel W F ρ ω L σ H → G.nx σ H
  | .rt d ω => ∀ v ρ σ H L, Rel W F ρ ω L σ H → Rep W H (FrA L) (obs L) d v → G.rt v H
  | .bk ρ ω => ∀ σ H L, Rel W F ρ ω L σ H → G.bk σ H
  | .ct ρ ω => ∀ σ H L, Rel W F ρ ω L σ H → G.ct σ H
  | .er e ω => ∀ cls dd ρ σ H L, Rel W F ρ ω L σ H → Exc W H e cls dd → Wx cls dd σ H
def tS (W : Wd) (Wx : WX) (m : T) : TS := fun G σ H => ∃ F ρ ω L, Rel W F ρ ω L σ H ∧ LeafS W Wx F G (m F.n0 ρ ω)
structure DS (X : Cx) (Wx : WX) (st : Stmt) (m : T) : Prop where
  ps : PS X st (tS (wd X) Wx m)
structure DSs (X : Cx) (Wx : WX) (st : List Stmt) (m : T) : Prop where
  pss : PSs X st (tS (wd X) Wx m)
@[simp] def sq (m1 m2 : T) : T := fun n0 ρ ω => match m1 n0 ρ ω with
  | .nx ρ' ω' => m2 n0 ρ' ω'
  | r => r
@[simp] def sNx : T := fun _ ρ ω => .nx ρ ω
def sStuck : T := fun _ _ _ => .stuck
section
variable {X : Cx} {Wx : WX} {pos p : Pos} {a b c e : Expr} {Ba Bb Bc B : List Nat} {ma mb mc m : M} {x f : Str} {st : Stmt} {sts rest : List Stmt} {t u : T}
theorem s_nil : DSs X Wx [] sNx := ⟨PSs.weak pss_nil fun G σ H ⟨F, ρ, ω, L, R, h⟩ => h σ H L R⟩
theorem s_cons (h1 : DS X Wx st t) (h2 : DSs X Wx rest u) : DSs X Wx (st :: rest) (sq t u) :=
  ⟨PSs.weak (pss_cons h1.ps h2.pss) fun G σ H ⟨F, ρ, ω, L, R, h⟩ => ⟨F, ρ, ω, L, R, by
    unfold sq at h
    cases z : t F.n0 ρ ω with
    | stuck => rw [z] at h; exact h
    | nx ρ' ω' => rw [z] at h; exact fun σ' H' L' R' => ⟨F, ρ', ω', L', R', h⟩
    | rt d ω' => rw [z] at h; exact h
    | bk ρ' ω' => rw [z] at h; exact h
    | ct ρ' ω' => rw [z] at h; exact h
    | er e ω' => rw [z] at h; exact h⟩⟩
theorem s_one (h1 : DS X Wx st t) : DSs X Wx [st] t := ⟨pss_one h1.ps⟩
theorem s_never : DS X Wx st sStuck := ⟨PS.weak ps_never fun G σ H ⟨F, ρ, ω, L, R, h⟩ => h⟩
theorem ss_never : DSs X Wx sts sStuck := ⟨PSs.weak pss_never fun G σ H ⟨F, ρ, ω, L, R, h⟩ => h⟩
theorem s_pass : DS X Wx (.Pass pos) sNx := ⟨PS.weak ps_pass fun G σ H ⟨F, ρ, ω, L, R, h⟩ => h σ H L R⟩
theorem s_doc {x j pos'} : DS X Wx (.Expr (.Constant (.str x) j pos) pos') sNx := ⟨PS.weak ps_doc fun G σ H ⟨F, ρ, ω, L, R, h⟩ => h σ H L R⟩
theorem s_break : DS X Wx (.Break pos) (fun _ ρ ω => .bk ρ ω) := ⟨PS.weak ps_break fun G σ H ⟨F, ρ, ω, L, R, h⟩ => h σ H L R⟩
theorem s_continue : DS X Wx (.Continue pos) (fun _ ρ ω => .ct ρ ω) := ⟨PS.weak ps_continue fun G σ H ⟨F, ρ, ω, L, R, h⟩ => h σ H L R⟩
/-- an expression, then r -/
theorem leafS_bind {W : Wd} {F : Fm} {ρ : Env'} {ω : Store} {L : Lc} {σ : L2.St} {H : Hp} {G : Ends} {r : Res D} {k : D → RS} (R : Rel W F ρ ω L σ H) (h : LeafS W Wx F G (match r with
    | .stuck => .stuck
    | .err e => .er e ω
    | .ok d => k d)) {P : VK} (hP : ∀ d v H', r = .ok d → Same H H' → Rel W F ρ ω L σ H' → Rep W H' (Fr L B) (obs L) d v → LeafS W Wx F G (k d) → P v H') : Leaf W Wx L B σ H P r := by
  cases r with
  | stuck => exact h
  | err e => exact fun c d H' s x => h c d ρ σ H' L (R.same s) x
  | ok d => exact fun v H' s q => hP d v H' rfl s (R.same s) q h
@[simp] def ofE (r : Res D) (ω : Store) (k : D → RS) : RS := match r with
  | .stuck => .stuck
  | .err e => .er e ω
  | .ok d => k d
/-- return e -/
@[simp] def sRet (m : M) : T := fun _ ρ ω => ofE (m ρ ω) ω fun d => .rt d ω
theorem fr_frA {L : Lc} {a : Addr} (h : Fr L B a) : FrA L a := fun p e => by
  obtain ⟨i, _, q⟩ := h p e
  exact ⟨i, q⟩
theorem s_ret (he : DP X Wx B e m) : DS X Wx (.Return (some e) pos) (sRet m) :=
  ⟨PS.weak (ps_ret he.pe) fun G σ H ⟨F, ρ, ω, L, R, h⟩ => ⟨F, ρ, ω, L, R, leafS_bind (k := fun d => .rt d ω) R h fun d v H' _ s R' q l => l v ρ σ H' L R' (Rep.mono (Kp.sub fun a u f _ => fr_frA f) d v q)⟩⟩
theorem s_retN : DS X Wx (.Return none pos) (fun _ ρ ω => .rt .non ω) := ⟨PS.weak ps_retN fun G σ H ⟨F, ρ, ω, L, R, h⟩ => h .non ρ σ H L R rfl⟩
/-- an expression as a statement -/
@[simp] def sDrop (m : M) : T := fun _ ρ ω => ofE (m ρ ω) ω fun _ => .nx ρ ω
theorem s_expr (he : DP X Wx B e m) (hs : swapsWith e none pos.line X.env = pure false := by rfl) : DS X Wx (.Expr e pos) (sDrop m) :=
  ⟨PS.weak (ps_expr he.pe hs) fun G σ H ⟨F, ρ, ω, L, R, h⟩ => ⟨F, ρ, ω, L, R, leafS_bind (k := fun _ => .nx ρ ω) R h fun d v H' _ s R' q l => l σ H' L R'⟩⟩
/-- if -/
@[simp] def sIf (mt : Env' → Store → Res Bool) (t u : T) : T := fun n0 ρ ω => match mt ρ ω with
  | .stuck => .stuck
  | .err e => .er e ω
  | .ok k => if k = true then t n0 ρ ω else u n0 ρ ω
theorem s_if {mt : Env' → Store → Res Bool} (hc : DB X Wx c mt) (ha : DSs X Wx sts t) (hb : DSs X Wx rest u) : DS X Wx (.If c sts rest pos) (sIf mt t u) :=
  ⟨PS.weak (ps_if hc.pt ha.pss hb.pss) fun G σ H ⟨F, ρ, ω, L, R, h⟩ => ⟨F, ρ, ω, L, R, by
    unfold sIf at h
    cases z : mt ρ ω with
    | stuck => rw [z] at h; exact h
    | err e => rw [z] at h; exact fun c d H' s x => h c d ρ σ H' L (R.same s) x
    | ok k =>
      rw [z] at h
      intro H' s
      cases k with
      | true => exact ⟨F, ρ, ω, L, R.same s, h⟩
      | false => exact ⟨F, ρ, ω, L, R.same s, h⟩⟩⟩
end

/-! ### values without containers -/
mutual
@[simp] def D.free : D → Bool
  | .non => true
  | .bl _ => true
  | .int _ => true
  | .str _ => true
  | .tup xs => D.frees xs
  | .ctup xs => D.frees xs
  | .obj _ => true
  | .lst _ => false
  | .dK _ => false
  | .dT _ => false
  | .ins _ _ => false
@[simp] def D.frees : List D → Bool
  | [] => true
  | d :: r => D.free d && D.frees r
end
section
variable {W : Wd} {H : Hp} {S S' : Addr → Prop} {ob : Nat → Option Addr}
mutual
theorem D.free_rep : ∀ (d : D) (v : V), D.free d = true → Rep W H S ob d v → Rep W H S' ob d v
  | .non, _, _, h => h
  | .bl _, _, _, h => h
  | .int _, _, _, h => h
  | .str _, _, _, h => h
  | .tup xs, v, e, ⟨a, vs, e1, h1, q⟩ => ⟨a, vs, e1, h1, D.frees_rep xs vs e q⟩
  | .ctup xs, v, e, ⟨a, vs, e1, h1, q⟩ => ⟨a, vs, e1, h1, D.frees_rep xs vs e q⟩
  | .obj _, _, _, h => h
  | .lst _, _, e, _ => by cases e
  | .dK _, _, e, _ => by cases e
  | .dT _, _, e, _ => by cases e
  | .ins _ _, _, e, _ => by cases e
theorem D.frees_rep : ∀ (d : List D) (v : List V), D.frees d = true → Reps W H S ob d v → Reps W H S' ob d v
  | [], _, _, h => h
  | d :: ds, _, e, ⟨v, r, e1, p, q⟩ => by
    have e : (D.free d && D.frees ds) = true := e
    rw [Bool.and_eq_true] at e
    exact ⟨v, r, e1, D.free_rep d v e.1 p, D.frees_rep ds r e.2 q⟩
end
end
/-- a container whose items are such -/
@[simp] def D.inFree : D → Bool
  | .lst xs => D.frees xs
  | .dK kvs => kvs.all fun kv => D.free kv.2
  | .dT kvs => kvs.all fun kv => D.free kv.2
  | _ => false
theorem repK_free {W : Wd} {H : Hp} {S S' : Addr → Prop} {ob : Nat → Option Addr} : ∀ {kvs : List (Key × D)} {vs : List (Key × V)}, (kvs.all fun kv => D.free kv.2) = true → RepK W H S ob kvs vs → RepK W H S' ob kvs vs
  | [], _, _, h => h
  | (k, d) :: r, _, e, ⟨v, t, e1, p, q⟩ => by
    rw [List.all_cons, Bool.and_eq_true] at e
    exact ⟨v, t, e1, D.free_rep d v e.1 p, repK_free e.2 q⟩
theorem repT_free {W : Wd} {H : Hp} {S S' : Addr → Prop} {ob : Nat → Option Addr} : ∀ {kvs : List (List Key × D)} {vs : List (List Key × V)}, (kvs.all fun kv => D.free kv.2) = true → RepT W H S ob kvs vs → RepT W H S' ob kvs vs
  | [], _, _, h => h
  | (k, d) :: r, _, e, ⟨v, t, e1, p, q⟩ => by
    rw [List.all_cons, Bool.and_eq_true] at e
    exact ⟨v, t, e1, D.free_rep d v e.1 p, repT_free e.2 q⟩
theorem inFree_repO {W : Wd} {H : Hp} {S S' : Addr → Prop} {ob : Nat → Option Addr} {ex : Bool} : ∀ {d : D} {a : Addr}, D.inFree d = true → RepO W H S ob ex d a → RepO W H S' ob ex d a
  | .lst xs, a, e, ⟨vs, h, q⟩ => ⟨vs, h, D.frees_rep xs vs e q⟩
  | .dK xs, a, e, ⟨vs, h, q⟩ => ⟨vs, h, repK_free e q⟩
  | .dT xs, a, e, ⟨vs, h, q⟩ => ⟨vs, h, repT_free e q⟩
  | .non, _, e, _ | .bl _, _, e, _ | .int _, _, e, _ | .str _, _, e, _ | .tup _, _, e, _ | .ctup _, _, e, _ | .ins _ _, _, e, _ | .obj _, _, e, _ => by cases e

/-! ### slots that no longer own -/
def dmS (B : List Nat) (j : Nat) (s : Sl) : Sl := if j ∈ B then (match s with
  | .own d => .val d
  | s => s) else s
def demote (B : List Nat) (ρ : Env') : Env' := ρ.mapIdx (dmS B)
def lcD (B : List Nat) (L : Lc) : Lc := fun p => match p with
  | .sl i => if i ∈ B then none else L (.sl i)
  | p => L p
theorem lcD_some {B : List Nat} {L : Lc} {p : Pl} {a : Addr} (h : lcD B L p = some a) : L p = some a ∧ ∀ i, p = .sl i → i ∉ B := by
  cases p with
  | sl i =>
    have h : (if i ∈ B then none else L (.sl i)) = some a := h
    split at h
    · cases h
    · rename_i hb
      exact ⟨h, fun j e => by cases e; exact hb⟩
  | fd n f => exact ⟨h, fun j e => by cases e⟩
  | ob n => exact ⟨h, fun j e => by cases e⟩
  | fg b => exact ⟨h, fun j e => by cases e⟩
theorem Fr.dem {B : List Nat} {L : Lc} {a : Addr} (h : Fr L B a) : Fr (lcD B L) [] a := fun p e => by
  obtain ⟨e1, e2⟩ := lcD_some e
  obtain ⟨i, m, q⟩ := h p e1
  exact absurd m (e2 i q)
theorem Fr.dem0 {B : List Nat} {L : Lc} {a : Addr} (h : Fr L [] a) : Fr (lcD B L) [] a := fun p e => h p (lcD_some e).1
theorem kp_dem {W : Wd} {H : Hp} {B : List Nat} {L : Lc} : Kp H H (Fr L B) (Fr (lcD B L) []) (obs L) (obs (lcD B L)) := ⟨fun a u f _ => f.dem, fun _ _ _ h => h, fun _ _ h => h, fun n a h => h⟩
theorem kp_dem0 {W : Wd} {H : Hp} {B : List Nat} {L : Lc} : Kp H H (Fr L []) (Fr (lcD B L) []) (obs L) (obs (lcD B L)) := ⟨fun a u f _ => f.dem0, fun _ _ _ h => h, fun _ _ h => h, fun n a h => h⟩
theorem RepO.mono {W : Wd} {H H' : Hp} {S S' : Addr → Prop} {ob ob' : Nat → Option Addr} {ex ex' : Bool} (k : Kp H H' S S' ob ob') {a : Addr} (ka : ∀ u, AtE ex H a u → AtE ex' H' a u) (kl : ∀ xs, H a = some (.lst xs) → H' a = some (.lst xs)) : ∀ {d : D}, RepO W H S ob ex d a → RepO W H' S' ob' ex' d a
  | .lst xs, ⟨vs, h, q⟩ => ⟨vs, kl _ h, Reps.mono k xs vs q⟩
  | .dK xs, ⟨vs, h, q⟩ => ⟨vs, ka _ h, RepK.mono k xs vs q⟩
  | .dT xs, ⟨vs, h, q⟩ => ⟨vs, ka _ h, RepT.mono k xs vs q⟩
  | .non, h | .bl _, h | .int _, h | .str _, h | .tup _, h | .ctup _, h | .ins _ _, h | .obj _, h => h.elim
/-- the same heap, other places, all but one place as it was -/
theorem SltR.places {W : Wd} {H : Hp} {L L' : Lc} {p : Pl} {ex : Bool} (k : Kp H H (Fr L []) (Fr L' []) (obs L) (obs L')) (hp : L' p = L p) : ∀ {s : Sl} {v : Option V}, SltR W H L p ex s v → SltR W H L' p ex s v
  | .no, _, _ => trivial
  | .val d, v, ⟨x, e, h⟩ => ⟨x, e, Rep.mono k d x h⟩
  | .own d, v, ⟨a, e, l, h⟩ => ⟨a, e, hp.trans l, RepO.mono k (fun _ h => h) (fun _ h => h) h⟩
theorem FsR.places {W : Wd} {H : Hp} {L L' : Lc} {n : Nat} {ex : Bool} (k : Kp H H (Fr L []) (Fr L' []) (obs L) (obs L')) (hp : ∀ f, L' (.fd n f) = L (.fd n f)) : ∀ {fs : List (Str × Sl)} {vs : List (Str × V)}, FsR W H L n ex fs vs → FsR W H L' n ex fs vs
  | [], _, h => h
  | (f, x) :: r, _, ⟨v, t, e, h, q⟩ => ⟨v, t, e, SltR.places k (hp f) h, FsR.places k hp q⟩
theorem ObR.places {W : Wd} {H : Hp} {L L' : Lc} {n : Nat} {ex : Bool} {o : Ob} (k : Kp H H (Fr L []) (Fr L' []) (obs L) (obs L')) (hp : ∀ f, L' (.fd n f) = L (.fd n f)) (h : ObR W H L ex n o) : ObR W H L' ex n o := by
  obtain ⟨p, C, dx, fs, e1, e2, e3, q⟩ := h.at_
  exact ⟨p, C, dx, fs, k.o n p e1, e2, e3, FsR.places k hp q⟩
section
variable {W : Wd} {F : Fm} {ρ : Env'} {ω : Store} {L : Lc} {σ : L2.St} {H : Hp}
theorem Rel.demote (R : Rel W F ρ ω L σ H) (B : List Nat) : Rel W F (demote B ρ) ω (lcD B L) σ H where
  inj := fun p q a e1 e2 => R.inj p q a (lcD_some e1).1 (lcD_some e2).1
  alive := fun p a e => R.alive p a (lcD_some e).1
  aft := ⟨R.aft.keep, fun i a e => R.aft.newS i a (lcD_some e).1, fun p a m e => R.aft.newM p a m (lcD_some e).1, fun p m => by
    cases p with
    | sl i => exact absurd trivial m
    | fd n f => exact R.aft.prot _ m
    | ob n => exact R.aft.prot _ m
    | fg b => exact R.aft.prot _ m, R.aft.obk, R.aft.there⟩
  fgs := R.fgs
  len := by unfold DL.demote; rw [List.length_mapIdx]; exact R.len
  sl := fun i s e => by
    unfold DL.demote at e
    rw [List.getElem?_mapIdx] at e
    cases z : ρ[i]? with
    | none => rw [z] at e; cases e
    | some s0 =>
      rw [z] at e
      have e : dmS B i s0 = s := Option.some.inj e
      have q := R.sl i s0 z
      by_cases hb : i ∈ B
      · unfold dmS at e
        rw [if_pos hb] at e
        cases s0 with
        | no => subst e; trivial
        | val d =>
          subst e
          obtain ⟨x, e1, r⟩ := q
          exact ⟨x, e1, Rep.mono (kp_dem0 (W := W)) d x r⟩
        | own d =>
          subst e
          obtain ⟨a, e1, l, r⟩ := q
          refine ⟨.ref a, e1, ?_⟩
          have r1 := R.own_rep l r
          refine Rep.mono ⟨fun b u f _ => ?_, fun _ _ _ h => h, fun _ _ h => h, fun n b h => h⟩ d _ r1
          intro p ep
          obtain ⟨e2, e3⟩ := lcD_some ep
          obtain ⟨j, m, q⟩ := f p e2
          have : j = i := by simpa using m
          subst this
          exact absurd hb (e3 j q)
      · rw [show dmS B i s0 = s0 from if_neg hb] at e
        subst e
        exact SltR.places (kp_dem0 (W := W)) (by show (if i ∈ B then none else L (.sl i)) = _; rw [if_neg hb]) q
  st := fun n o e => ObR.places (kp_dem0 (W := W)) (fun f => rfl) (R.st n o e)
  dom := R.dom
/-- a place is given to a slot -/
def lcS (L : Lc) (i : Nat) (o : Option Addr) : Lc := fun p => if p = .sl i then o else L p
end
/-- places and heap move on -/
theorem SltR.move {W : Wd} {H H' : Hp} {L L' : Lc} {p : Pl} {ex : Bool} (k : Kp H H' (Fr L []) (Fr L' []) (obs L) (obs L')) (s : Same H H') (hp : L' p = L p) : ∀ {x : Sl} {v : Option V}, SltR W H L p ex x v → SltR W H' L' p ex x v
  | .no, _, _ => trivial
  | .val d, v, ⟨x, e, h⟩ => ⟨x, e, Rep.mono k d x h⟩
  | .own d, v, ⟨a, e, l, h⟩ => ⟨a, e, hp.trans l, RepO.mono k (fun _ h => h.same s) (fun _ h => s _ _ h) h⟩
theorem FsR.move {W : Wd} {H H' : Hp} {L L' : Lc} {n : Nat} {ex : Bool} (k : Kp H H' (Fr L []) (Fr L' []) (obs L) (obs L')) (s : Same H H') (hp : ∀ f, L' (.fd n f) = L (.fd n f)) : ∀ {fs : List (Str × Sl)} {vs : List (Str × V)}, FsR W H L n ex fs vs → FsR W H' L' n ex fs vs
  | [], _, h => h
  | (f, x) :: r, _, ⟨v, t, e, h, q⟩ => ⟨v, t, e, SltR.move k s (hp f) h, FsR.move k s hp q⟩
theorem ObR.move {W : Wd} {H H' : Hp} {L L' : Lc} {n : Nat} {ex : Bool} {o : Ob} (k : Kp H H' (Fr L []) (Fr L' []) (obs L) (obs L')) (s : Same H H') (hp : ∀ f, L' (.fd n f) = L (.fd n f)) (h : ObR W H L ex n o) : ObR W H' L' ex n o := by
  obtain ⟨p, C, dx, fs, e1, e2, e3, q⟩ := h.at_
  exact ⟨p, C, dx, fs, k.o n p e1, e2, s _ _ e3, FsR.move k s hp q⟩
section
variable {W : Wd} {F : Fm} {ρ : Env'} {ω : Store} {L : Lc} {σ : L2.St} {H H' : Hp}
theorem lcS_ne {i : Nat} {o : Option Addr} {p : Pl} (h : p ≠ .sl i) : lcS L i o p = L p := if_neg h
theorem lcS_eq {i : Nat} {o : Option Addr} : lcS L i o (.sl i) = o := if_pos rfl
theorem set_join {i j : Nat} {v : V} (hi : i < σ.length) : ((σ.set i (some v))[j]?).join = if j = i then some v else (σ[j]?).join := by
  by_cases e : j = i
  · subst e
    rw [List.getElem?_set_self hi, if_pos rfl]; rfl
  · rw [List.getElem?_set_ne (Ne.symm e), if_neg e]
theorem Rel.put (R : Rel W F ρ ω L σ H) (s : Same H H') {i : Nat} {x : Sl} {v : V} {o : Option Addr} (hi : i < ρ.length) (k : Kp H H' (Fr L []) (Fr (lcS L i o) []) (obs L) (obs (lcS L i o)))
    (ho : ∀ a, o = some a → H a = none ∧ ∃ u, H' a = some u ∧ isC u = true) (hx : SltR W H' (lcS L i o) (.sl i) true x (some v)) : Rel W F (ρ.set i x) ω (lcS L i o) (σ.set i (some v)) H' := by
  have hσ : i < σ.length := by rw [R.len]; exact hi
  have apart : ∀ {p : Pl} {a : Addr}, p ≠ .sl i → lcS L i o p = some a → o ≠ some a := fun {p a} np e z => by
    rw [lcS_ne np] at e
    obtain ⟨u, h, _⟩ := R.alive p a e
    rw [(ho a z).1] at h; cases h
  refine ⟨fun p q a e1 e2 => ?_, fun p a e => ?_, ⟨fun a u h hp => s a u (R.aft.keep a u h hp), fun j a e => ?_, fun p a m e => ?_, fun p m => ?_, fun n a h => ?_, fun a u h => ?_⟩, fun a b e => R.fgs a b (by rw [lcS_ne (fun z => by cases z)] at e; exact e), by rw [List.length_set, List.length_set]; exact R.len, fun j y e => ?_, fun n b e => ?_, fun n h => ⟨by rw [lcS_ne (fun z => by cases z)]; exact (R.dom n h).1, fun f => by rw [lcS_ne (fun z => by cases z)]; exact (R.dom n h).2 f⟩⟩
  · by_cases h1 : p = .sl i
    · by_cases h2 : q = .sl i
      · rw [h1, h2]
      · subst h1
        rw [lcS_eq] at e1
        exact absurd e1 (apart h2 e2)
    · by_cases h2 : q = .sl i
      · subst h2
        rw [lcS_eq] at e2
        exact absurd e2 (apart h1 e1)
      · rw [lcS_ne h1] at e1
        rw [lcS_ne h2] at e2
        exact R.inj p q a e1 e2
  · by_cases h1 : p = .sl i
    · subst h1
      rw [lcS_eq] at e
      exact (ho a e).2
    · rw [lcS_ne h1] at e
      obtain ⟨u, h, c⟩ := R.alive p a e
      exact ⟨u, s a u h, c⟩
  · by_cases h1 : j = i
    · subst h1
      rw [lcS_eq] at e
      exact .inr (R.aft.fresh (ho a e).1)
    · rw [lcS_ne (fun z => h1 (by cases z; rfl))] at e
      exact R.aft.newS j a e
  · rw [lcS_ne (fun z => by rw [z] at m; exact m)] at e
    exact R.aft.newM p a m e
  · rw [lcS_ne (fun z => m (by rw [z]; trivial))]
    exact R.aft.prot p m
  · rw [lcS_ne (fun z => by cases z)]
    exact R.aft.obk n a h
  · obtain ⟨v, q⟩ := R.aft.there a u h
    exact ⟨v, s a v q⟩
  · rw [set_join hσ]
    by_cases h1 : j = i
    · subst h1
      rw [if_pos rfl]
      rw [List.getElem?_set_self hi] at e
      cases e
      exact hx
    · rw [if_neg h1]
      rw [List.getElem?_set_ne (Ne.symm h1)] at e
      exact SltR.move k s (lcS_ne (fun z => h1 (by cases z; rfl))) (R.sl j y e)
  · exact ObR.move k s (fun f => lcS_ne (fun z => by cases z)) (R.st n b e)
theorem kp_none {i : Nat} (s : Same H H') : Kp H H' (Fr L []) (Fr (lcS L i none) []) (obs L) (obs (lcS L i none)) where
  s := fun a u f _ p e => by
    by_cases h : p = .sl i
    · subst h; rw [lcS_eq] at e; cases e
    · rw [lcS_ne h] at e; exact f p e
  k := fun a u _ h => s a u h
  t := fun a xs h => s a _ h
  o := fun n a h => by show lcS L i none (.ob n) = _; rw [lcS_ne (fun z => by cases z)]; exact h
theorem kp_own {i : Nat} {a : Addr} (s : Same H H') (n : H a = none) : Kp H H' (Fr L []) (Fr (lcS L i (some a)) []) (obs L) (obs (lcS L i (some a))) where
  s := fun b u f hb p e => by
    by_cases h : p = .sl i
    · subst h
      rw [lcS_eq] at e
      cases e
      rw [n] at hb; cases hb
    · rw [lcS_ne h] at e; exact f p e
  k := fun a u _ h => s a u h
  t := fun a xs h => s a _ h
  o := fun n b h => by show lcS L i (some a) (.ob n) = _; rw [lcS_ne (fun z => by cases z)]; exact h
theorem Rel.putVal (R : Rel W F ρ ω L σ H) {i : Nat} {d : D} {v : V} (hi : i < ρ.length) (r : Rep W H (Fr L []) (obs L) d v) : Rel W F (ρ.set i (.val d)) ω (lcS L i none) (σ.set i (some v)) H :=
  R.put (Same.refl H) hi (kp_none (Same.refl H)) (fun a e => by cases e) ⟨v, rfl, Rep.mono (kp_none (Same.refl H)) d v r⟩
/-- what stands in a slot from now on: a value met in B -/
@[simp] def dem (B : List Nat) (d : D) (ρ : Env') : Env' := if D.free d = true then ρ else DL.demote B ρ
@[simp] def demO (B : List Nat) (d : D) (ρ : Env') : Env' := if D.inFree d = true then ρ else DL.demote B ρ
theorem demote_len {B : List Nat} : (DL.demote B ρ).length = ρ.length := by unfold DL.demote; rw [List.length_mapIdx]
theorem Rel.store (R : Rel W F ρ ω L σ H) {B : List Nat} {i : Nat} {d : D} {v : V} (hi : i < ρ.length) (r : Rep W H (Fr L B) (obs L) d v) : ∃ L', Rel W F ((dem B d ρ).set i (.val d)) ω L' (σ.set i (some v)) H := by
  unfold dem
  split
  · rename_i f
    exact ⟨_, R.putVal hi (D.free_rep d v f r)⟩
  · exact ⟨_, (R.demote B).putVal (by rw [demote_len]; exact hi) (Rep.mono (kp_dem (W := W)) d v r)⟩
theorem isC_repO {S : Addr → Prop} {ob : Nat → Option Addr} : ∀ {d : D} {a : Addr}, RepO W H S ob true d a → ∃ u, H a = some u ∧ isC u = true
  | .lst xs, a, ⟨vs, h, q⟩ => ⟨_, h, rfl⟩
  | .dK xs, a, ⟨vs, h, q⟩ => ⟨_, h.1 rfl, rfl⟩
  | .dT xs, a, ⟨vs, h, q⟩ => ⟨_, h.1 rfl, rfl⟩
  | .non, _, h | .bl _, _, h | .int _, _, h | .str _, _, h | .tup _, _, h | .ctup _, _, h | .ins _ _, _, h | .obj _, _, h => h.elim
theorem Rel.storeO (R : Rel W F ρ ω L σ H) (s : Same H H') {B : List Nat} {i : Nat} {d : D} {a : Addr} (hi : i < ρ.length) (n : H a = none) (r : RepO W H' (Fn L B a) (obs L) true d a) : ∃ L', Rel W F ((demO B d ρ).set i (.own d)) ω L' (σ.set i (some (.ref a))) H' := by
  unfold demO
  split
  · rename_i f
    refine ⟨_, R.put s (o := some a) hi (kp_own s n) (fun b e => by cases e; exact ⟨n, isC_repO r⟩) ⟨a, rfl, lcS_eq, ?_⟩⟩
    refine RepO.mono (S := Fr (lcS L i (some a)) []) (ob := obs L) ⟨fun _ _ f _ => f, fun _ _ _ h => h, fun _ _ h => h, fun m b h => ?_⟩ (fun _ h => h) (fun _ h => h) (inFree_repO f r)
    show lcS L i (some a) (.ob m) = _; rw [lcS_ne (fun z => by cases z)]; exact h
  · refine ⟨_, (R.demote B).put s (o := some a) (by rw [demote_len]; exact hi) (kp_own s n) (fun b e => by cases e; exact ⟨n, isC_repO r⟩) ⟨a, rfl, lcS_eq, ?_⟩⟩
    refine RepO.mono (S := Fn L B a) (ob := obs L) ⟨fun b u f _ p e => ?_, fun _ _ _ h => h, fun _ _ h => h, fun m b h => ?_⟩ (fun _ h => h) (fun _ h => h) r
    · by_cases h : p = .sl i
      · subst h
        rw [lcS_eq] at e
        cases e
        exact absurd rfl f.2
      · rw [lcS_ne h] at e
        exact f.1.dem p e
    · show lcS (lcD B L) i (some a) (.ob m) = _; rw [lcS_ne (fun z => by cases z)]; exact h
end

/-! ### name = value -/
section
variable {X : Cx} {Wx : WX} {pos p : Pos} {a b c e : Expr} {Ba Bb Bc B : List Nat} {ma mb mc m : M} {x f : Str} {i : Nat}
@[simp] def sSet (i : Nat) (B : List Nat) (m : M) : T := fun _ ρ ω => ofE (m ρ ω) ω fun d => if i < ρ.length then .nx ((dem B d ρ).set i (.val d)) ω else .stuck
theorem s_set (hN : X.N.Nodup) (hi : X.N[i]? = some x) (hx : Loc X.env.scope x) (he : DP X Wx B e m) (hs : swapsWith e (some (.Name x p)) pos.line X.env = pure false := by rfl) (hf : X.fn x = true ∨ X.env.scope.names.lookup x = some .local := by first | exact .inl rfl | exact .inr rfl | assumption) :
    DS X Wx (.Assign [.Name x p] e pos) (sSet i B m) :=
  ⟨PS.weak (ps_set hN hi hx he.pe hs hf) fun G σ H ⟨F, ρ, ω, L, R, h⟩ => ⟨F, ρ, ω, L, R, leafS_bind (k := fun d => if i < ρ.length then .nx ((dem B d ρ).set i (.val d)) ω else .stuck) R h fun d v H' _ s R' q l => by
    split at l
    · rename_i hl
      obtain ⟨L', R2⟩ := R'.store (B := B) hl q
      exact l _ H' L' R2
    · exact l.elim⟩⟩
@[simp] def sSetO (i : Nat) (B : List Nat) (m : M) : T := fun _ ρ ω => ofE (m ρ ω) ω fun d => if i < ρ.length then .nx ((demO B d ρ).set i (.own d)) ω else .stuck
theorem s_setO (hN : X.N.Nodup) (hi : X.N[i]? = some x) (hx : Loc X.env.scope x) (he : DF X Wx B e m) (hs : swapsWith e (some (.Name x p)) pos.line X.env = pure false := by rfl) (hf : X.fn x = true ∨ X.env.scope.names.lookup x = some .local := by first | exact .inl rfl | exact .inr rfl | assumption) :
    DS X Wx (.Assign [.Name x p] e pos) (sSetO i B m) :=
  ⟨PS.weak (ps_set hN hi hx he.pe hs hf) fun G σ H ⟨F, ρ, ω, L, R, h⟩ => ⟨F, ρ, ω, L, R, by
    unfold sSetO ofE at h
    cases z : m ρ ω with
    | stuck => rw [z] at h; exact h
    | err e => rw [z] at h; exact fun c d H' s x => h c d ρ σ H' L (R.same s) x
    | ok d =>
      rw [z] at h
      intro a H' s n r
      replace h : LeafS (wd X) Wx F G (if i < ρ.length then .nx ((demO B d ρ).set i (.own d)) ω else .stuck) := h
      split at h
      · rename_i hl
        obtain ⟨L', R2⟩ := R.storeO s (B := B) hl n r
        exact h _ H' L' R2
      · exact h.elim⟩⟩
/-! name += number -/
@[simp] def sAugI (i : Nat) (m : M) : T := fun _ ρ ω => match ρ[i]? with
  | some (.val (.int x)) => ofE (m ρ ω) ω fun d => match d with
    | .int y => .nx (ρ.set i (.val (.int (x + y)))) ω
    | _ => .stuck
  | _ => .stuck
theorem s_augI (hN : X.N.Nodup) (hi : X.N[i]? = some x) (hx : Loc X.env.scope x) (he : DP X Wx B e m) (hf : X.fn x = true ∨ X.env.scope.names.lookup x = some .local := by first | exact .inl rfl | exact .inr rfl | assumption) :
    DS X Wx (.AugAssign (.Name x p) .Add e pos) (sAugI i m) :=
  ⟨PS.weak (ps_aug hN hi hx he.pe ip_add hf) fun G σ H ⟨F, ρ, ω, L, R, h⟩ => by
    unfold sAugI at h
    split at h
    · rename_i z ez
      have q := R.sl i _ ez
      obtain ⟨v, e1, r⟩ := q
      have e2 : σ[i]? = some (some v) := by
        cases w : σ[i]? with
        | none => rw [w] at e1; cases e1
        | some y => rw [w] at e1; exact congrArg some e1
      have hl : i < ρ.length := (List.getElem?_eq_some_iff.mp ez).1
      refine ⟨v, e2, F, ρ, ω, L, R, leafS_bind (k := fun d => match d with
        | .int y => .nx (ρ.set i (.val (.int (z + y)))) ω
        | _ => .stuck) R h fun d y H' _ s R' q l => ?_⟩
      split at l
      · exact ⟨z, _, r, q, l _ H' _ (R'.putVal hl rfl)⟩
      · exact l.elim
    · exact h.elim⟩
end
end DL
namespace DL
open PySem PySem.Spec PyProof.Rows L2

/-- frozen things stay -/
theorem Aft.kp {n0 : Nat} {L L' : Lc} {H H' : Hp} (x : Aft n0 L H L' H') (al : ∀ p a, L p = some a → ∃ u, H a = some u ∧ isC u = true) : Kp H H' (Fr L []) (Fr L' []) (obs L) (obs L') where
  s := fun b u f hb p e => by
    by_cases m : Mt n0 p
    · rcases x.new p b m e with ⟨q, _, eq⟩ | z
      · obtain ⟨j, hj, _⟩ := f q eq; cases hj
      · rw [hb] at z; cases z
    · rw [x.prot p m] at e
      exact f p e
  k := fun b u f hb => x.keep b u hb fun p e _ => by
    obtain ⟨i, m, _⟩ := f p e
    cases m
  t := fun b xs hb => x.keep b _ hb fun p e _ => by
    obtain ⟨u, h, c⟩ := al p b e
    rw [hb] at h
    cases h
    cases c
  o := fun n a h => x.obk n a h
section
variable {W : Wd} {F : Fm} {ρ ρ' : Env'} {ω ω' : Store} {L L' : Lc} {σ σ' : L2.St} {H H' : Hp}
abbrev Fm.at (F : Fm) (L : Lc) (H : Hp) : Fm := ⟨F.n0, L, H⟩
theorem Rel.sub (R : Rel W F ρ ω L σ H) : Rel W (F.at L H) ρ ω L σ H := ⟨R.inj, R.alive, Aft.refl, R.fgs, R.len, R.sl, R.st, R.dom⟩
theorem Rel.up (R : Rel W F ρ ω L σ H) (R' : Rel W (F.at L H) ρ' ω' L' σ' H') : Rel W F ρ' ω' L' σ' H' := ⟨R'.inj, R'.alive, R.aft.trans R'.aft, R'.fgs, R'.len, R'.sl, R'.st, R'.dom⟩
theorem LeafS.sub {Wx : WX} {G G' : Ends} {r : RS} (R : Rel W F ρ ω L σ H) (h : LeafS W Wx F G r) (hn : ∀ ρ' ω' σ' H' L', r = .nx ρ' ω' → Rel W (F.at L H) ρ' ω' L' σ' H' → G'.nx σ' H') (hc : ∀ ρ' ω' σ' H' L', r = .ct ρ' ω' → Rel W (F.at L H) ρ' ω' L' σ' H' → G'.ct σ' H')
    (hb : ∀ ρ' ω' σ' H' L', r = .bk ρ' ω' → Rel W (F.at L H) ρ' ω' L' σ' H' → G'.bk σ' H') (hr : G'.rt = G.rt) : LeafS W Wx (F.at L H) G' r := by
  cases r with
  | stuck => exact h
  | nx ρ' ω' => exact fun σ' H' L' R' => hn ρ' ω' σ' H' L' rfl R'
  | ct ρ' ω' => exact fun σ' H' L' R' => hc ρ' ω' σ' H' L' rfl R'
  | bk ρ' ω' => exact fun σ' H' L' R' => hb ρ' ω' σ' H' L' rfl R'
  | rt d ω' => exact fun v ρ' σ' H' L' R' q => by rw [hr]; exact h v ρ' σ' H' L' (R.up R') q
  | er e ω' => exact fun c d ρ' σ' H' L' R' x => h c d ρ' σ' H' L' (R.up R') x
end

/-! ### while -/
def mWh (tst : Env' → Store → Res Bool) (body : T) : Nat → T
  | 0 => fun _ _ _ => .stuck
  | k + 1 => fun n0 ρ ω => match tst ρ ω with
    | .stuck => .stuck
    | .err e => .er e ω
    | .ok false => .nx ρ ω
    | .ok true => match body n0 ρ ω with
      | .nx ρ' ω' => mWh tst body k n0 ρ' ω'
      | .ct ρ' ω' => mWh tst body k n0 ρ' ω'
      | .bk ρ' ω' => .nx ρ' ω'
      | r => r
section
variable {X : Cx} {Wx : WX} {pos p : Pos} {a b c e : Expr} {Ba Bb Bc B : List Nat} {ma mb mc m : M} {x f : Str} {i : Nat} {st : Stmt} {sts rest : List Stmt} {t u : T}
theorem s_while (k : Nat) {mt : Env' → Store → Res Bool} (hp : PassesOwn (model X.prog X.w) X.A X.env X.xe) (hc : DB X Wx c mt) (hb : DSs X Wx sts t) : DS X Wx (.While c sts [] pos) (mWh mt t k) :=
  ⟨PS.weak (ps_while hp hc.pt hb.pss) fun G σ H ⟨F, ρ, ω, L, R, h⟩ => by
    refine ⟨fun k σ H => ∃ ρ ω L, Rel (wd X) F ρ ω L σ H ∧ LeafS (wd X) Wx F G (mWh mt t k F.n0 ρ ω), ⟨k, ρ, ω, L, R, h⟩, ?_⟩
    rintro k σ H ⟨ρ, ω, L, R, h⟩
    refine ⟨F, ρ, ω, L, R, ?_⟩
    cases k with
    | zero => exact h.elim
    | succ k =>
      unfold mWh at h
      cases z : mt ρ ω with
      | stuck => rw [z] at h; exact h
      | err e => rw [z] at h; exact fun c d H' s x => h c d ρ σ H' L (R.same s) x
      | ok kk =>
        rw [z] at h
        intro H1 s1
        have R1 := R.same s1
        cases kk with
        | false => exact h σ H1 L R1
        | true =>
          refine ⟨fun σ' H' => ∃ ρ' ω' L', Rel (wd X) F ρ' ω' L' σ' H' ∧ LeafS (wd X) Wx F G (mWh mt t k F.n0 ρ' ω'), fun σ' H' q => ⟨k, Nat.lt_succ_self k, q⟩, F, ρ, ω, L, R1, ?_⟩
          replace h : LeafS (wd X) Wx F G (match t F.n0 ρ ω with
            | .nx ρ' ω' => mWh mt t k F.n0 ρ' ω'
            | .ct ρ' ω' => mWh mt t k F.n0 ρ' ω'
            | .bk ρ' ω' => .nx ρ' ω'
            | r => r) := h
          cases zb : t F.n0 ρ ω with
          | stuck => rw [zb] at h; exact h
          | nx ρ' ω' => rw [zb] at h; exact fun σ' H' L' R' => ⟨ρ', ω', L', R', h⟩
          | ct ρ' ω' => rw [zb] at h; exact fun σ' H' L' R' => ⟨ρ', ω', L', R', h⟩
          | bk ρ' ω' => rw [zb] at h; exact h
          | rt d ω' => rw [zb] at h; exact h
          | er e ω' => rw [zb] at h; exact h⟩
end

/-! ### what is walked -/
structure Walks (W : Wd) (J : It) (xs : List D) (P : (Addr → Prop) → (Nat → Option Addr) → Hp → Prop) : Prop where
  go : ∀ S ob i H, P S ob H → i < xs.length → J.go i H
  yld : ∀ S ob i H x H', P S ob H → J.yld i H x H' → i < xs.length → Same H H' ∧ ∃ d, xs[i]? = some d ∧ Rep W H' S ob d x
  stop : ∀ S ob i H, P S ob H → xs.length ≤ i → J.stop i H
  kp : ∀ S S' ob ob' H H', P S ob H → Kp H H' S S' ob ob' → P S' ob' H'
def LeafI (W : Wd) (Wx : WX) (L : Lc) (B : List Nat) (σ : L2.St) (H : Hp) (R : It → Hp → Prop) : Res (List D) → Prop
  | .stuck => False
  | .ok xs => ∀ J H1 P, Same H H1 → P (Fr L B) (obs L) H1 → Walks W J xs P → R J H1
  | .err e => ∀ cls dd H', Same H H' → Exc W H' e cls dd → Wx cls dd σ H'
def tI (W : Wd) (Wx : WX) (B : List Nat) (ms : MA) : TI := fun σ H R => ∃ F ρ ω L, Rel W F ρ ω L σ H ∧ LeafI W Wx L B σ H R (ms ρ ω)
structure DI (X : Cx) (Wx : WX) (B : List Nat) (tg iter : Expr) (ms : MA) : Prop where
  pi : PI X tg iter (tI (wd X) Wx B ms)
theorem PI.weak {X : Cx} {tg iter : Expr} {t t' : TI} (h : PI X tg iter t) (w : ∀ σ H R, t' σ H R → t σ H R) : PI X tg iter t' := ⟨fun pins s σ H R I q => h.run pins s σ H R I (w σ H R q)⟩
theorem leafI_bind {W : Wd} {Wx : WX} {F : Fm} {ρ : Env'} {ω : Store} {L : Lc} {B : List Nat} {σ : L2.St} {H : Hp} {R' : It → Hp → Prop} {r : Res D} {k : D → Res (List D)} (R : Rel W F ρ ω L σ H) (h : LeafI W Wx L B σ H R' (r.bind k)) {P : VK}
    (hP : ∀ d v H', Same H H' → Rel W F ρ ω L σ H' → Rep W H' (Fr L B) (obs L) d v → LeafI W Wx L B σ H' R' (k d) → P v H') : Leaf W Wx L B σ H P r := by
  cases r with
  | stuck => exact h
  | err e => exact h
  | ok d =>
    intro v H' s q
    refine hP d v H' s (R.same s) q ?_
    replace h : LeafI W Wx L B σ H R' (k d) := h
    cases z : k d with
    | stuck => rw [z] at h; exact h
    | err e => rw [z] at h; exact fun c d H2 s2 x => h c d H2 (s.trans s2) x
    | ok xs => rw [z] at h; exact fun J H1 P s1 p w => h J H1 P (s.trans s1) p w
@[simp] def asLst : D → Res (List D)
  | .lst xs => .ok xs
  | _ => .stuck
@[simp] def asTup : D → Res (List D)
  | .tup xs => .ok xs
  | _ => .stuck
theorem walks_list {W : Wd} {K : PySem.W.Frag} {a : Addr} {xs : List D} : Walks W (Itl K a) xs (fun S ob H => Rep W H S ob (.lst xs) (.ref a)) where
  go := fun S ob i H ⟨a', vs, e, s, h, q⟩ hi => by
    cases e
    obtain ⟨v, e1, _⟩ := q.get (List.getElem?_eq_getElem hi)
    exact ⟨vs, v, .of h, e1⟩
  yld := fun S ob i H x H' ⟨a', vs, e, s, h, q⟩ ⟨e1, e2⟩ hi => by
    cases e
    subst e1
    obtain ⟨d, e3, r⟩ := q.get' (e2 vs (.of h))
    exact ⟨Same.refl _, d, e3, r⟩
  stop := fun S ob i H ⟨a', vs, e, s, h, q⟩ hi => by
    cases e
    exact ⟨vs, .of h, by rw [q.len]; exact hi⟩
  kp := fun S S' ob ob' H H' r k => Rep.mono k _ _ r
theorem walks_tup {W : Wd} {K : PySem.W.Frag} {a : Addr} {xs : List D} : Walks W (Itt K a) xs (fun S ob H => Rep W H S ob (.tup xs) (.ref a)) where
  go := fun S ob i H ⟨a', vs, e, h, q⟩ hi => by
    cases e
    obtain ⟨v, e1, _⟩ := q.get (List.getElem?_eq_getElem hi)
    exact ⟨vs, v, .of h, e1⟩
  yld := fun S ob i H x H' ⟨a', vs, e, h, q⟩ ⟨e1, e2⟩ hi => by
    cases e
    subst e1
    obtain ⟨d, e3, r⟩ := q.get' (e2 vs (.of h))
    exact ⟨Same.refl _, d, e3, r⟩
  stop := fun S ob i H ⟨a', vs, e, h, q⟩ hi => by
    cases e
    exact ⟨vs, .of h, by rw [q.len]; exact hi⟩
  kp := fun S S' ob ob' H H' r k => Rep.mono k _ _ r
section
variable {X : Cx} {Wx : WX} {pos p : Pos} {a b c e tg : Expr} {Ba Bb Bc B : List Nat} {ma mb mc m : M} {x f : Str} {i : Nat} {st : Stmt} {sts rest : List Stmt} {t u : T}
@[simp] def iLst (m : M) : MA := fun ρ ω => (m ρ ω).bind asLst
@[simp] def iTupl (m : M) : MA := fun ρ ω => (m ρ ω).bind asTup
theorem i_list (he : DP X Wx B e m) : DI X Wx B tg e (iLst m) :=
  ⟨PI.weak (pi_list he.pe) fun σ H R' ⟨F, ρ, ω, L, R, h⟩ => ⟨F, ρ, ω, L, R, leafI_bind R h fun d v H' s R1 q l => by
    cases d with
    | lst xs =>
      obtain ⟨a, vs, e1, s1, h1, q1⟩ := q
      exact ⟨a, e1, ⟨vs, .of h1⟩, l _ H' _ (Same.refl _) ⟨a, vs, rfl, s1, h1, q1⟩ walks_list⟩
    | _ => exact l.elim⟩⟩
theorem i_tup (he : DP X Wx B e m) : DI X Wx B tg e (iTupl m) :=
  ⟨PI.weak (pi_tup he.pe) fun σ H R' ⟨F, ρ, ω, L, R, h⟩ => ⟨F, ρ, ω, L, R, leafI_bind R h fun d v H' s R1 q l => by
    cases d with
    | tup xs =>
      obtain ⟨a, vs, e1, h1, q1⟩ := q
      exact ⟨a, e1, ⟨vs, .of h1⟩, l _ H' _ (Same.refl _) ⟨a, vs, rfl, h1, q1⟩ walks_tup⟩
    | _ => exact l.elim⟩⟩
/-- range(n), range(a, b) -/
def rangeD (lo : Int) (n : Nat) : List D := (List.range n).map fun (j : Nat) => .int (lo + j)
theorem walks_range {W : Wd} {lo : Int} {n : Nat} : Walks W (Itr lo n) (rangeD lo n) (fun _ _ _ => True) where
  go := fun S ob i H _ hi => by
    unfold rangeD at hi
    rw [List.length_map, List.length_range] at hi
    exact hi
  yld := fun S ob i H x H' _ ⟨e1, e2⟩ hi => by
    subst e1
    unfold rangeD at hi ⊢
    rw [List.length_map, List.length_range] at hi
    refine ⟨Same.refl _, .int (lo + i), ?_, e2⟩
    rw [List.getElem?_map, List.getElem?_range hi]; rfl
  stop := fun S ob i H _ hi => by
    unfold rangeD at hi
    rw [List.length_map, List.length_range] at hi
    exact hi
  kp := fun _ _ _ _ _ _ _ _ => trivial
noncomputable def asRng1 : D → Res (List D)
  | .int n => @ite _ (n < 4611686018427387904 ∧ -4611686018427387904 ≤ n) (Classical.propDecidable _) (.ok (rangeD 0 n.toNat)) .stuck
  | _ => .stuck
@[simp] noncomputable def iRng (m : M) : MA := fun ρ ω => (m ρ ω).bind asRng1
theorem LeafA.one {W : Wd} {L : Lc} {σ : L2.St} {H : Hp} {P : List V → Hp → Prop} {r : Res D} (h : Leaf W Wx L B σ H (fun v H' => P [v] H') r) : LeafA W Wx L B σ H P (r.bind fun x => .ok [x]) := by
  cases r with
  | stuck => exact h
  | err e => exact h
  | ok d =>
    intro vs H' s q
    obtain ⟨v, t, e1, q1, q2⟩ := q
    have e2 : t = [] := q2
    subst e2
    subst e1
    exact h v H' s q1
theorem i_range (hg : Gl X "range") (hm : X.mg "range" = none) (ha : DU X Wx B a m) (hs : starEach [a] X.env = [(false, eval a X.env)] := by rfl) : DI X Wx B tg (.Call (.Name "range" p) [a] [] pos) (iRng m) :=
  ⟨PI.weak (pi_range1 hg hm (pa_cons ha.pe pa_nil hs) hs) fun σ H R' ⟨F, ρ, ω, L, R, h⟩ => by
    refine ⟨F, ρ, ω, L, R, ?_⟩
    unfold iRng at h
    cases z : m ρ ω with
    | stuck => rw [z] at h; exact h
    | err e => rw [z] at h; exact h
    | ok d =>
      rw [z] at h
      intro v H' s q
      cases d with
      | int n =>
        replace h : LeafI (wd X) Wx L B σ H R' (@ite _ (n < 4611686018427387904 ∧ -4611686018427387904 ≤ n) (Classical.propDecidable _) (.ok (rangeD 0 n.toNat)) .stuck) := h
        split at h
        · rename_i hn
          exact ⟨n, by rw [show v = .int n from q], by omega, by omega, h _ H' (fun _ _ _ => True) s trivial walks_range⟩
        · exact h.elim
      | _ => exact h.elim⟩
noncomputable def asRng2 : D → D → Res (List D)
  | .int i, .int j => @ite _ ((i < 4611686018427387904 ∧ -4611686018427387904 ≤ i) ∧ (j < 4611686018427387904 ∧ -4611686018427387904 ≤ j)) (Classical.propDecidable _) (.ok (rangeD i (j - i).toNat)) .stuck
  | _, _ => .stuck
@[simp] noncomputable def iRng2' (ma mb : M) : MA := fun ρ ω => (ma ρ ω).bind fun x => (mb ρ ω).bind fun y => asRng2 x y
theorem i_range2 (hg : Gl X "range") (hm : X.mg "range" = none) (ha : DU X Wx Ba a ma) (hb : DU X Wx Bb b mb) (hs : starEach [a, b] X.env = [(false, eval a X.env), (false, eval b X.env)] := by rfl) (hs2 : starEach [b] X.env = [(false, eval b X.env)] := by rfl) :
    DI X Wx (Ba ++ Bb) tg (.Call (.Name "range" p) [a, b] [] pos) (iRng2' ma mb) :=
  ⟨PI.weak (pi_range2 hg hm (pa_cons ha.pe (pa_cons hb.pe pa_nil hs2) (by rw [hs, hs2])) hs hs2) fun σ H R' ⟨F, ρ, ω, L, R, h⟩ => by
    refine ⟨F, ρ, ω, L, R, ?_⟩
    unfold iRng2' at h
    cases z : ma ρ ω with
    | stuck => rw [z] at h; exact h
    | err e => rw [z] at h; exact h
    | ok d =>
      rw [z] at h
      intro v H' s q
      refine ⟨F, ρ, ω, L, R.same s, ?_⟩
      cases z2 : mb ρ ω with
      | stuck => rw [z2] at h; exact h
      | err e => rw [z2] at h; exact fun c d H2 s2 x => h c d H2 (s.trans s2) x
      | ok d2 =>
        rw [z2] at h
        intro w H2 s2 q2
        replace h : LeafI (wd X) Wx L (Ba ++ Bb) σ H R' (asRng2 d d2) := h
        unfold asRng2 at h
        split at h
        · split at h
          · rename_i hn
            exact ⟨_, _, by rw [show v = .int _ from q, show w = .int _ from q2], ⟨by omega, by omega, by omega, by omega⟩, h _ H2 (fun _ _ _ => True) (s.trans s2) trivial walks_range⟩
          · exact h.elim
        · exact h.elim⟩
/-- enumerate(list) -/
def enumD : Nat → List D → List D
  | _, [] => []
  | k, d :: r => .tup [.int (k : Nat), d] :: enumD (k + 1) r
theorem enumD_get : ∀ {xs : List D} {k i : Nat}, (enumD k xs)[i]? = (xs[i]?).map fun d => .tup [.int ((k + i : Nat) : Int), d]
  | [], k, i => by simp [enumD]
  | d :: r, k, 0 => by simp [enumD]
  | d :: r, k, i + 1 => by
    show (enumD (k + 1) r)[i]? = _
    rw [enumD_get (xs := r)]
    simp only [List.getElem?_cons_succ]
    congr 1
    funext d
    congr 4
    omega
theorem enumD_len : ∀ {xs : List D} {k : Nat}, (enumD k xs).length = xs.length
  | [], _ => rfl
  | d :: r, k => by show (enumD (k + 1) r).length + 1 = r.length + 1; rw [enumD_len]
theorem walks_enum {W : Wd} {K : PySem.W.Frag} {a : Addr} {xs : List D} : Walks W (Ite K a) (enumD 0 xs) (fun S ob H => Rep W H S ob (.lst xs) (.ref a)) where
  go := fun S ob i H ⟨a', vs, e, s, h, q⟩ hi => by
    cases e
    rw [enumD_len] at hi
    obtain ⟨v, e1, _⟩ := q.get (List.getElem?_eq_getElem hi)
    exact ⟨vs, v, .of h, e1⟩
  yld := fun S ob i H x H' ⟨a', vs, e, s, h, q⟩ ⟨T, x', e1, e2, e3, e4⟩ hi => by
    cases e
    subst e3
    have sm := same_upd (o := .tup [.int (i : Nat), x']) e2
    obtain ⟨d, e5, r⟩ := q.get' (e4 vs (.of h))
    refine ⟨sm, .tup [.int (i : Nat), d], ?_, T, [.int (i : Nat), x'], e1, upd_same, ⟨_, _, rfl, rfl, _, _, rfl, r.same sm, rfl⟩⟩
    rw [enumD_get, e5]; simp
  stop := fun S ob i H ⟨a', vs, e, s, h, q⟩ hi => by
    cases e
    rw [enumD_len] at hi
    exact ⟨vs, .of h, by rw [q.len]; exact hi⟩
  kp := fun S S' ob ob' H H' r k => Rep.mono k _ _ r
@[simp] def iEnumL (m : M) : MA := fun ρ ω => (m ρ ω).bind fun d => match d with
  | .lst xs => .ok (enumD 0 xs)
  | _ => .stuck
theorem i_enum {elts : List Expr} {kk : Nat} {tpos : Pos} (hg : Gl X "enumerate") (hm : X.mg "enumerate" = none) (ha : DP X Wx B a m) (hs : starEach [a] X.env = [(false, eval a X.env)] := by rfl) : DI X Wx B (.Tuple elts kk tpos) (.Call (.Name "enumerate" p) [a] [] pos) (iEnumL m) :=
  ⟨PI.weak (pi_enum hg hm (pa_cons ha.pe pa_nil hs) hs) fun σ H R' ⟨F, ρ, ω, L, R, h⟩ => ⟨F, ρ, ω, L, R, leafI_bind R h fun d v H' s R1 q l => by
    cases d with
    | lst xs =>
      obtain ⟨a, vs, e1, s1, h1, q1⟩ := q
      exact ⟨a, vs, by rw [e1], .of h1, l _ H' _ (Same.refl _) ⟨a, vs, rfl, s1, h1, q1⟩ walks_enum⟩
    | _ => exact l.elim⟩⟩
/-- a text, sign by sign -/
def signsD (x : Str) : List D := x.cps.toList.map fun c => .str ⟨#[c]⟩
theorem walks_str {W : Wd} {x : Str} : Walks W (Its x) (signsD x) (fun _ _ _ => True) where
  go := fun S ob i H _ hi => by
    unfold signsD at hi
    rw [List.length_map, Array.length_toList] at hi
    exact hi
  yld := fun S ob i H y H' _ ⟨e1, c, e2, e3⟩ hi => by
    subst e1
    refine ⟨Same.refl _, .str ⟨#[c]⟩, ?_, e3⟩
    unfold signsD
    rw [List.getElem?_map, Array.getElem?_toList, e2]; rfl
  stop := fun S ob i H _ hi => by
    unfold signsD at hi
    rw [List.length_map, Array.length_toList] at hi
    exact hi
  kp := fun _ _ _ _ _ _ _ _ => trivial
@[simp] def asStrs : D → Res (List D)
  | .str s => .ok (signsD s)
  | _ => .stuck
@[simp] def iStrs (m : M) : MA := fun ρ ω => (m ρ ω).bind asStrs
theorem i_str (he : DP X Wx B e m) : DI X Wx B tg e (iStrs m) :=
  ⟨PI.weak (pi_str he.pe) fun σ H R' ⟨F, ρ, ω, L, R, h⟩ => ⟨F, ρ, ω, L, R, leafI_bind R h fun d v H' s R1 q l => by
    cases d with
    | str z => exact ⟨z, q, l _ H' (fun _ _ _ => True) (Same.refl _) trivial walks_str⟩
    | _ => exact l.elim⟩⟩
end
end DL
namespace DL
open PySem PySem.Spec PyProof.Rows L2

/-! ### targets -/
def tG (W : Wd) (mt : D → Env' → Option Env') : TG := fun v σ H Q => ∃ F ρ ω L d, Rel W F ρ ω L σ H ∧ Rep W H (Fr L []) (obs L) d v ∧ (match mt d ρ with
  | some ρ' => ∀ σ' L', Rel W F ρ' ω L' σ' H → Q σ' H
  | none => False)
structure DG (X : Cx) (tg : Expr) (mt : D → Env' → Option Env') : Prop where
  pg : PG X tg (tG (wd X) mt)
theorem PG.weak {X : Cx} {tg : Expr} {t t' : TG} (h : PG X tg t) (w : ∀ v σ H Q, t' v σ H Q → t v σ H Q) : PG X tg t' := ⟨fun pins s σ H v u Q I r q => h.run pins s σ H v u Q I r (w v σ H Q q)⟩
@[simp] def gN (i : Nat) : D → Env' → Option Env' := fun d ρ => if i < ρ.length then some (ρ.set i (.val d)) else none
@[simp] def gNs : List Nat → List D → Env' → Option Env'
  | [], [], ρ => some ρ
  | i :: is, d :: ds, ρ => if i < ρ.length then gNs is ds (ρ.set i (.val d)) else none
  | _, _, _ => none
@[simp] def gT (is : List Nat) : D → Env' → Option Env'
  | .tup ds, ρ => gNs is ds ρ
  | _, _ => none
section
variable {X : Cx} {pos : Pos} {x : Str} {i : Nat}
theorem g_name (hN : X.N.Nodup) (hi : X.N[i]? = some x) (hx : Loc X.env.scope x) (hf : X.fn x = true ∨ X.env.scope.names.lookup x = some .local := by first | exact .inl rfl | exact .inr rfl | assumption) : DG X (.Name x pos) (gN i) :=
  ⟨PG.weak (pg_name hN hi hx hf) fun v σ H Q ⟨F, ρ, ω, L, d, R, q, h⟩ => by
    unfold gN at h
    split at h
    · rename_i ρ' e
      split at e
      · rename_i hl
        cases e
        exact h _ _ (R.putVal hl q)
      · cases e
    · exact h.elim⟩
/-- several names -/
structure DGs (X : Cx) (es : List Expr) (is : List Nat) : Prop where
  pgs : ∃ t, PGs X es t ∧ ∀ (F : Fm) (ρ : Env') (ω : Store) (L : Lc) (ds : List D) (vs : List V) (σ : L2.St) (H : Hp) (Q : L2.St → Hp → Prop), Rel (wd X) F ρ ω L σ H → Reps (wd X) H (Fr L []) (obs L) ds vs →
    (match gNs is ds ρ with
      | some ρ' => ∀ σ' L', Rel (wd X) F ρ' ω L' σ' H → Q σ' H
      | none => False) → t vs σ H Q
theorem gs_nil : DGs X [] [] := ⟨gNil, pgs_nil, fun F ρ ω L ds vs σ H Q R q h => by
  cases ds with
  | nil => exact ⟨q, h σ L R⟩
  | cons d ds => exact h.elim⟩
theorem gs_cons {es : List Expr} {is : List Nat} (hN : X.N.Nodup) (hi : X.N[i]? = some x) (hx : Loc X.env.scope x) (hr : DGs X es is)
    (hs : (assignEach (.Name x pos :: es) X.env).map (·.2) = assign (.Name x pos) X.env :: (assignEach es X.env).map (·.2) := by rfl) (hf : X.fn x = true ∨ X.env.scope.names.lookup x = some .local := by first | exact .inl rfl | exact .inr rfl | assumption) : DGs X (.Name x pos :: es) (i :: is) := by
  obtain ⟨t, ht, k⟩ := hr.pgs
  refine ⟨gCons (gName i) t, pgs_cons (pg_name hN hi hx hf) ht hs, fun F ρ ω L ds vs σ H Q R q h => ?_⟩
  cases ds with
  | nil => exact h.elim
  | cons d ds =>
    obtain ⟨v, r, e, q1, q2⟩ := q
    refine ⟨v, r, e, ?_⟩
    have h : (match (if i < ρ.length then gNs is ds (ρ.set i (.val d)) else none) with
      | some ρ' => ∀ σ' L', Rel (wd X) F ρ' ω L' σ' H → Q σ' H
      | none => False) := h
    by_cases hl : i < ρ.length
    · rw [if_pos hl] at h
      exact k F _ ω _ ds r _ H Q (R.putVal hl q1) (Reps.mono (kp_none (Same.refl H)) ds r q2) h
    · rw [if_neg hl] at h
      exact h.elim
theorem g_tup {es : List Expr} {is : List Nat} {k : Nat} (hc : X.calm = true) (h : DGs X es is) (hn : (assignEach es X.env).length = is.length := by rfl) (hst : (assignEach es X.env).findIdx? (·.1) = none := by rfl) : DG X (.Tuple es k pos) (gT is) := by
  obtain ⟨t, ht, kk⟩ := h.pgs
  refine ⟨PG.weak (pg_tup hc ht hn hst) fun v σ H Q ⟨F, ρ, ω, L, d, R, q, h⟩ => ?_⟩
  unfold gT at h
  cases d with
  | tup ds =>
    obtain ⟨a, vs, e, h1, q1⟩ := q
    have hlen : ∀ (is : List Nat) (ds : List D) (ρ ρ' : Env'), gNs is ds ρ = some ρ' → ds.length = is.length := by
      intro is
      induction is with
      | nil => intro ds ρ ρ' e; cases ds with
        | nil => rfl
        | cons _ _ => cases e
      | cons i is ih => intro ds ρ ρ' e; cases ds with
        | nil => cases e
        | cons d ds =>
          have e : (if i < ρ.length then gNs is ds (ρ.set i (.val d)) else none) = some ρ' := e
          split at e
          · rw [List.length_cons, List.length_cons, ih ds _ _ e]
          · cases e
    refine ⟨a, vs, e, .of h1, ?_, kk F ρ ω L ds vs σ H Q R q1 h⟩
    have h' : (match gNs is ds ρ with
      | some ρ' => ∀ σ' L', Rel (wd X) F ρ' ω L' σ' H → Q σ' H
      | none => False) := h
    cases z : gNs is ds ρ with
    | none => rw [z] at h'; exact h'.elim
    | some ρ' => rw [q1.len, hlen _ _ _ _ z]
  | _ => exact h.elim
end

/-! ### for -/
@[simp] def mFor (mt : D → Env' → Option Env') (body : T) : List D → T
  | [] => fun _ ρ ω => .nx ρ ω
  | x :: r => fun n0 ρ ω => match mt x ρ with
    | none => .stuck
    | some ρ1 => match body n0 ρ1 ω with
      | .nx ρ' ω' => mFor mt body r n0 ρ' ω'
      | .ct ρ' ω' => mFor mt body r n0 ρ' ω'
      | .bk ρ' ω' => .nx ρ' ω'
      | q => q
@[simp] def sFor (B : List Nat) (ms : MA) (mt : D → Env' → Option Env') (body : T) : T := fun n0 ρ ω => match ms ρ ω with
  | .stuck => .stuck
  | .err e => .er e ω
  | .ok xs => mFor mt body xs n0 (demote B ρ) ω
section
variable {X : Cx} {Wx : WX} {pos p : Pos} {a b c e tg iter : Expr} {Ba Bb Bc B : List Nat} {ma mb mc m : M} {x f : Str} {i : Nat} {st : Stmt} {sts rest : List Stmt} {t u : T} {ms : MA} {mt : D → Env' → Option Env'}
theorem s_for (hp : PassesOwn (model X.prog X.w) X.A X.env X.xe) (hc : X.calm = true) (hi : DI X Wx B tg iter ms) (hg : DG X tg mt) (hb : DSs X Wx sts t) (hs : ∀ x, foldedSetIterable iter X.env x = pure x := by intro _; rfl) : DS X Wx (.For tg iter sts [] pos) (sFor B ms mt t) :=
  ⟨PS.weak (ps_for hp hc hi.pi hg.pg hb.pss hs) fun G σ H ⟨F, ρ, ω, L, R, h⟩ => by
    refine ⟨F, ρ, ω, L, R, ?_⟩
    unfold sFor at h
    cases z : ms ρ ω with
    | stuck => rw [z] at h; exact h
    | err e => rw [z] at h; exact fun c d H' s x => h c d ρ σ H' L (R.same s) x
    | ok xs =>
      rw [z] at h
      intro J H1 P s1 p0 w
      have R1 := (R.same s1).demote B
      have p1 : P (Fr (lcD B L) []) (obs (lcD B L)) H1 := w.kp _ _ _ _ _ _ p0 (kp_dem (W := wd X))
      refine ⟨fun i k σ H => k = xs.length - i ∧ i ≤ xs.length ∧ ∃ ρ ω L, Rel (wd X) F ρ ω L σ H ∧ P (Fr L []) (obs L) H ∧ LeafS (wd X) Wx F G (mFor mt t (xs.drop i) F.n0 ρ ω), ⟨xs.length, by simp, Nat.zero_le _, _, _, _, R1, p1, h⟩, ?_⟩
      rintro i k σ H2 ⟨rfl, hi, ρ, ω, L, R, p, h⟩
      by_cases hlt : i < xs.length
      · refine .inr ⟨w.go _ _ i H2 p hlt, fun σ' H' => ∃ ρ' ω' L', Rel (wd X) F ρ' ω' L' σ' H' ∧ P (Fr L' []) (obs L') H' ∧ LeafS (wd X) Wx F G (mFor mt t (xs.drop (i + 1)) F.n0 ρ' ω'),
          fun σ' H' q => ⟨xs.length - (i + 1), by omega, rfl, hlt, q⟩, fun v H' y => ?_⟩
        obtain ⟨sm, d, ed, rd⟩ := w.yld _ _ i H2 v H' p y hlt
        have ex : xs.drop i = d :: xs.drop (i + 1) := by
          rw [List.drop_eq_getElem_cons hlt]
          congr 1
          rw [List.getElem?_eq_getElem hlt] at ed
          exact Option.some.inj ed
        rw [ex] at h
        have R' := R.same sm
        have p' := w.kp _ _ _ _ _ _ p (Kp.same (S := Fr L []) (ob := obs L) sm)
        refine ⟨F.at L H', ρ, ω, L, d, R'.sub, rd, ?_⟩
        have h : LeafS (wd X) Wx F G (match mt d ρ with
          | none => .stuck
          | some ρ1 => match t F.n0 ρ1 ω with
            | .nx ρ' ω' => mFor mt t (xs.drop (i + 1)) F.n0 ρ' ω'
            | .ct ρ' ω' => mFor mt t (xs.drop (i + 1)) F.n0 ρ' ω'
            | .bk ρ' ω' => .nx ρ' ω'
            | q => q) := h
        cases zt : mt d ρ with
        | none => rw [zt] at h; exact h.elim
        | some ρ1 =>
          rw [zt] at h
          replace h : LeafS (wd X) Wx F G (match t F.n0 ρ1 ω with
            | .nx ρ' ω' => mFor mt t (xs.drop (i + 1)) F.n0 ρ' ω'
            | .ct ρ' ω' => mFor mt t (xs.drop (i + 1)) F.n0 ρ' ω'
            | .bk ρ' ω' => .nx ρ' ω'
            | q => q) := h
          intro σ2 L2 R2
          refine ⟨F.at L H', ρ1, ω, L2, R2, ?_⟩
          show LeafS (wd X) Wx (F.at L H') _ (t F.n0 ρ1 ω)
          cases zb : t F.n0 ρ1 ω with
          | stuck => rw [zb] at h; exact h
          | nx ρ' ω' =>
            rw [zb] at h
            exact fun σ3 H3 L3 R3 => ⟨ρ', ω', L3, R'.up R3, w.kp _ _ _ _ _ _ p' (R3.aft.kp R'.alive), h⟩
          | ct ρ' ω' =>
            rw [zb] at h
            exact fun σ3 H3 L3 R3 => ⟨ρ', ω', L3, R'.up R3, w.kp _ _ _ _ _ _ p' (R3.aft.kp R'.alive), h⟩
          | bk ρ' ω' =>
            rw [zb] at h
            exact fun σ3 H3 L3 R3 => h σ3 H3 L3 (R'.up R3)
          | rt d ω' =>
            rw [zb] at h
            exact fun v ρ3 σ3 H3 L3 R3 q => h v ρ3 σ3 H3 L3 (R'.up R3) q
          | er e ω' =>
            rw [zb] at h
            exact fun c d ρ3 σ3 H3 L3 R3 q => h c d ρ3 σ3 H3 L3 (R'.up R3) q
      · have e : i = xs.length := by omega
        subst e
        refine .inl ⟨w.stop _ _ _ H2 p (Nat.le_refl _), ?_⟩
        rw [List.drop_length] at h
        exact h σ H2 L R⟩
/-- a, b = e -/
@[simp] def sUnp (B : List Nat) (m : M) (mt : D → Env' → Option Env') : T := fun _ ρ ω => ofE (m ρ ω) ω fun d => match mt d (dem B d ρ) with
  | some ρ' => .nx ρ' ω
  | none => .stuck
theorem Rel.loosen {W : Wd} {F : Fm} {ρ : Env'} {ω : Store} {L : Lc} {σ : L2.St} {H : Hp} (R : Rel W F ρ ω L σ H) {B : List Nat} {d : D} {v : V} (r : Rep W H (Fr L B) (obs L) d v) : ∃ L', Rel W F (dem B d ρ) ω L' σ H ∧ Rep W H (Fr L' []) (obs L') d v := by
  unfold dem
  split
  · rename_i f
    exact ⟨L, R, D.free_rep d v f r⟩
  · exact ⟨_, R.demote B, Rep.mono (kp_dem (W := W)) d v r⟩
theorem s_unp (he : DP X Wx B e m) (hg : DG X tg mt) (hs : swapsWithSole [tg] e pos.line X.env = pure false := by rfl) (hw : swappedStores [tg] e X.env = pure none := by rfl) (h1 : (assignEach [tg] X.env).map (·.2) = [assign tg X.env] := by rfl) :
    DS X Wx (.Assign [tg] e pos) (sUnp B m mt) :=
  ⟨PS.weak (ps_asg he.pe hg.pg hs hw h1) fun G σ H ⟨F, ρ, ω, L, R, h⟩ => ⟨F, ρ, ω, L, R, leafS_bind (k := fun d => match mt d (dem B d ρ) with
      | some ρ' => .nx ρ' ω
      | none => .stuck) R h fun d v H' _ s R' q l => by
    obtain ⟨L1, R1, q1⟩ := R'.loosen q
    refine ⟨F, _, ω, L1, d, R1, q1, ?_⟩
    cases z : mt d (dem B d ρ) with
    | none => rw [z] at l; exact l.elim
    | some ρ' => rw [z] at l; exact fun σ' L' R2 => l σ' H' L' R2⟩⟩
end
end DL
namespace DL
open PySem PySem.Spec PyProof.Rows L2

/-! ### comprehensions -/
abbrev W0 : WX := fun _ _ _ _ => False
def compL (i : Nat) (tt : Env' → Store → Res Bool) (me : M) (ω : Store) (ρ : Env') : List D → Res (List D)
  | [] => .ok []
  | x :: r => match tt (ρ.set i (.val x)) ω with
    | .ok true => (match me (ρ.set i (.val x)) ω with
      | .ok y => (compL i tt me ω ρ r).bind fun ys => .ok (y :: ys)
      | _ => .stuck)
    | .ok false => compL i tt me ω ρ r
    | _ => .stuck
@[simp] def mComp (i : Nat) (Bi : List Nat) (ms : MA) (tt : Env' → Store → Res Bool) (me : M) : M := fun ρ ω => if i < ρ.length then (ms ρ ω).bind fun xs => if xs.length ≤ 1000 then (compL i tt me ω (demote Bi ρ) xs).bind fun ys => .ok (.lst ys) else .stuck else .stuck
@[simp] def bTrue : Env' → Store → Res Bool := fun _ _ => .ok true
/-- a hole: the new list, known to nobody -/
def lcH (L : Lc) (z : Addr) : Lc := fun p => if p = .fg z then some z else L p
theorem lcH_ne {L : Lc} {z : Addr} {p : Pl} (h : p ≠ .fg z) : lcH L z p = L p := if_neg h
theorem lcH_eq {L : Lc} {z : Addr} : lcH L z (.fg z) = some z := if_pos rfl
section
variable {W : Wd} {F : Fm} {ρ ρ' : Env'} {ω ω' : Store} {L L' : Lc} {σ σ' : L2.St} {H H' : Hp} {B : List Nat} {z : Addr}
theorem frH (f : Fr (lcH L z) B = Fr (lcH L z) B) {b : Addr} (h : Fr L B b) (n : b ≠ z) : Fr (lcH L z) B b := fun p e => by
  by_cases hp : p = .fg z
  · subst hp
    rw [lcH_eq] at e
    cases e
    exact absurd rfl n
  · rw [lcH_ne hp] at e
    exact h p e
theorem frH_ne {b : Addr} (h : Fr (lcH L z) B b) : b ≠ z := fun e => by
  subst e
  obtain ⟨i, _, q⟩ := h (.fg b) lcH_eq
  cases q
theorem frH_fr (hfg : ∀ a b, L (.fg a) = some b → b = a) {b : Addr} (h : Fr (lcH L z) B b) : Fr L B b := fun p e => by
  by_cases hp : p = .fg z
  · subst hp
    have := hfg z b e
    subst this
    exact absurd rfl (frH_ne h)
  · exact h p (by rw [lcH_ne hp]; exact e)
theorem kpH (hz : H z = none) (s : Same H H') : Kp H H' (Fr L B) (Fr (lcH L z) B) (obs L) (obs (lcH L z)) where
  s := fun a u f h => frH rfl f (ne_of_none h hz)
  k := fun a u _ h => s a u h
  t := fun a xs h => s a _ h
  o := fun n a h => by show lcH L z (.ob n) = _; rw [lcH_ne (fun e => by cases e)]; exact h
/-- the new list is laid: it is a hole -/
theorem Rel.hole (R : Rel W F ρ ω L σ H) (hz : H z = none) (xs : List V) : Rel W ⟨F.n0, lcH L z, upd H z (.lst xs)⟩ ρ ω (lcH L z) σ (upd H z (.lst xs)) := by
  have s : Same H (upd H z (.lst xs)) := same_upd hz
  have al : ∀ {p : Pl} {a : Addr}, p ≠ .fg z → lcH L z p = some a → a ≠ z := fun {p a} np e q => by
    rw [lcH_ne np] at e
    obtain ⟨u, h, _⟩ := R.alive p a e
    rw [q, hz] at h; cases h
  refine ⟨fun p q a e1 e2 => ?_, fun p a e => ?_, Aft.refl, fun a b e => ?_, R.len, fun i x e => SltR.move (kpH hz s) s (lcH_ne (fun e => by cases e)) (R.sl i x e), fun n o e => ObR.move (kpH hz s) s (fun f => lcH_ne (fun e => by cases e)) (R.st n o e), fun n h => ⟨by rw [lcH_ne (fun z => by cases z)]; exact (R.dom n h).1, fun f => by rw [lcH_ne (fun z => by cases z)]; exact (R.dom n h).2 f⟩⟩
  · by_cases h1 : p = .fg z
    · by_cases h2 : q = .fg z
      · rw [h1, h2]
      · subst h1
        rw [lcH_eq] at e1
        cases e1
        exact absurd rfl (al h2 e2)
    · by_cases h2 : q = .fg z
      · subst h2
        rw [lcH_eq] at e2
        cases e2
        exact absurd rfl (al h1 e1)
      · rw [lcH_ne h1] at e1
        rw [lcH_ne h2] at e2
        exact R.inj p q a e1 e2
  · by_cases h1 : p = .fg z
    · subst h1
      rw [lcH_eq] at e
      cases e
      exact ⟨_, upd_same, rfl⟩
    · rw [lcH_ne h1] at e
      obtain ⟨u, h, c⟩ := R.alive p a e
      exact ⟨u, s a u h, c⟩
  · by_cases h1 : Pl.fg a = .fg z
    · cases h1
      rw [lcH_eq] at e
      exact (Option.some.inj e).symm
    · rw [lcH_ne h1] at e
      exact R.fgs a b e
/-- the hole's list is changed -/
theorem kp_chg {xs ys : List V} (hL : L (.fg z) = some z) (hz : H z = some (.lst xs)) : Kp H (upd H z (.lst ys)) (Fr L B) (Fr L B) (obs L) (obs L) where
  s := fun _ _ f _ => f
  k := fun a u f h => by
    have n : a ≠ z := fun e => by
      subst e
      obtain ⟨i, _, q⟩ := f _ hL
      cases q
    rw [upd_ne n]; exact h
  t := fun a vs h => by
    rw [upd_ne (fun e => by rw [e, hz] at h; cases h)]; exact h
  o := fun _ _ h => h
theorem SltR.chg {p : Pl} {ex : Bool} (k : Kp H H' (Fr L []) (Fr L []) (obs L) (obs L)) (ne : ∀ a, L p = some a → H' a = H a) : ∀ {x : Sl} {v : Option V}, SltR W H L p ex x v → SltR W H' L p ex x v
  | .no, _, _ => trivial
  | .val d, v, ⟨x, e, h⟩ => ⟨x, e, Rep.mono k d x h⟩
  | .own d, v, ⟨a, e, l, h⟩ => ⟨a, e, l, RepO.mono k (fun u h => ⟨fun q => by rw [ne a l]; exact h.1 q, by
      rcases h.2 with h | ⟨o, h⟩
      · exact .inl (by rw [ne a l]; exact h)
      · exact .inr ⟨o, by rw [ne a l]; exact h⟩⟩) (fun _ h => by rw [ne a l]; exact h) h⟩
theorem FsR.chg {n : Nat} {ex : Bool} (k : Kp H H' (Fr L []) (Fr L []) (obs L) (obs L)) (ne : ∀ f a, L (.fd n f) = some a → H' a = H a) : ∀ {fs : List (Str × Sl)} {vs : List (Str × V)}, FsR W H L n ex fs vs → FsR W H' L n ex fs vs
  | [], _, h => h
  | (f, x) :: r, _, ⟨v, t, e, h, q⟩ => ⟨v, t, e, SltR.chg k (ne f) h, FsR.chg k ne q⟩
theorem Rel.chg (R : Rel W F ρ ω L σ H) {xs ys : List V} (hL : L (.fg z) = some z) (hz : H z = some (.lst xs)) : Rel W ⟨F.n0, L, upd H z (.lst ys)⟩ ρ ω L σ (upd H z (.lst ys)) := by
  have k : Kp H (upd H z (.lst ys)) (Fr L []) (Fr L []) (obs L) (obs L) := kp_chg hL hz
  have ne : ∀ p, p ≠ .fg z → ∀ a, L p = some a → upd H z (.lst ys) a = H a := fun p np a e => upd_ne (fun q => np (R.inj p (.fg z) z (by rw [← q]; exact e) hL))
  refine ⟨R.inj, fun p a e => ?_, Aft.refl, R.fgs, R.len, fun i x e => SltR.chg k (ne _ (fun e => by cases e)) (R.sl i x e), fun n o e => ?_, R.dom⟩
  · by_cases h1 : p = .fg z
    · subst h1
      rw [hL] at e
      cases e
      exact ⟨_, upd_same, rfl⟩
    · rw [ne p h1 a e]
      exact R.alive p a e
  · obtain ⟨p, C, dx, fs, e1, e2, e3, q⟩ := (R.st n o e).at_
    exact ⟨p, C, dx, fs, e1, e2, by rw [ne _ (fun e => by cases e) p e1]; exact e3, FsR.chg k (fun f => ne _ (fun e => by cases e)) q⟩
theorem Rel.wipe (R : Rel W F ρ ω L σ H) (i : Nat) : Rel W F (ρ.set i .no) ω L (L2.wipe σ [i]) H := by
  refine ⟨R.inj, R.alive, R.aft, R.fgs, ?_, fun j s e => ?_, R.st, R.dom⟩
  · rw [wipe_length, List.length_set]; exact R.len
  · by_cases h : j = i
    · subst h
      have hl : j < ρ.length := by
        have := (List.getElem?_eq_some_iff.mp e).1
        rwa [List.length_set] at this
      rw [List.getElem?_set_self hl] at e
      cases e
      trivial
    · rw [List.getElem?_set_ne (Ne.symm h)] at e
      have : (L2.wipe σ [i])[j]? = σ[j]? := List.getElem?_set_ne (Ne.symm h)
      rw [this]
      exact R.sl j s e
end
theorem Same.upd_left {H H' : Hp} {z : Addr} {o : HO} (s : Same H H') (n : H z = none) : Same H (upd H' z o) := fun b u h => by
  rw [upd_ne (ne_of_none h n)]; exact s b u h
theorem set_set_eq {α : Type} (l : List α) (i : Nat) (a b : α) : (l.set i a).set i b = l.set i b := List.set_set ..
/-- the loop of a comprehension, read -/
theorem lc_read {W : Wd} {Wx : WX} {Bi Be : List Nat} {ms : MA} {i : Nat} {tt : Env' → Store → Res Bool} {me : M} {F : Fm} {ρ : Env'} {ω : Store} {L : Lc} {σ : L2.St} {H : Hp} {Q : VK} (R : Rel W F ρ ω L σ H)
    (h : LeafF W Wx L (i :: (Bi ++ Be)) σ H Q (mComp i Bi ms tt me ρ ω)) : tLc (tI W Wx Bi ms) (gName i) (tT W W0 tt) (tP W W0 Be me) [i] σ H Q := by
  unfold mComp at h
  split at h
  · rename_i hl
    refine ⟨F, ρ, ω, L, R, ?_⟩
    cases zs : ms ρ ω with
    | stuck => rw [zs] at h; exact h
    | err e => rw [zs] at h; exact h
    | ok xs =>
      rw [zs] at h
      intro J H1 P s1 p0 w z hz
      have hz0 : H z = none := by
        cases e : H z with
        | none => rfl
        | some u => rw [s1 z u e] at hz; cases hz
      replace h : LeafF W Wx L (i :: (Bi ++ Be)) σ H Q (if xs.length ≤ 1000 then (compL i tt me ω (demote Bi ρ) xs).bind fun ys => .ok (.lst ys) else .stuck) := h
      split at h
      · rename_i hlen
        have hl' : i < (demote Bi ρ).length := by rw [demote_len]; exact hl
        have R1 := (((R.same s1).demote Bi).wipe i).hole hz []
        have LD : lcH (lcD Bi L) z (.fg z) = some z := lcH_eq
        have p1 := w.kp _ _ _ _ _ _ (w.kp _ _ _ _ _ _ p0 (kp_dem (W := W))) (kpH hz (same_upd (o := .lst []) hz))
        -- the invariant
        refine ⟨fun k m H2 => m = xs.length - k ∧ k ≤ xs.length ∧ ∃ (F2 : Fm) (ys : List D) (acc : List V), Rel W F2 ((demote Bi ρ).set i .no) ω (lcH (lcD Bi L) z) (L2.wipe σ [i]) H2 ∧ P (Fr (lcH (lcD Bi L) z) []) (obs (lcH (lcD Bi L) z)) H2 ∧ H2 z = some (.lst acc) ∧ acc.length ≤ k ∧ Same H H2 ∧
          Reps W H2 (Fn L (i :: (Bi ++ Be)) z) (obs L) ys acc ∧ LeafF W Wx L (i :: (Bi ++ Be)) σ H Q ((compL i tt me ω (demote Bi ρ) (xs.drop k)).bind fun r => .ok (.lst (ys ++ r))), ⟨xs.length, by simp, Nat.zero_le _, _, [], [], R1, p1, upd_same, Nat.le_refl _, s1.trans (same_upd hz), rfl, h⟩, ?_⟩
        rintro k m H2 ⟨rfl, hk, F2, ys, acc, R2, p2, hacc, hal, s2, racc, l2⟩
        by_cases hlt : k < xs.length
        · refine .inr ⟨w.go _ _ k H2 p2 hlt, fun H3 => ∃ (F3 : Fm) (ys : List D) (acc : List V), Rel W F3 ((demote Bi ρ).set i .no) ω (lcH (lcD Bi L) z) (L2.wipe σ [i]) H3 ∧ P (Fr (lcH (lcD Bi L) z) []) (obs (lcH (lcD Bi L) z)) H3 ∧ H3 z = some (.lst acc) ∧ acc.length ≤ k + 1 ∧ Same H H3 ∧
            Reps W H3 (Fn L (i :: (Bi ++ Be)) z) (obs L) ys acc ∧ LeafF W Wx L (i :: (Bi ++ Be)) σ H Q ((compL i tt me ω (demote Bi ρ) (xs.drop (k + 1))).bind fun r => .ok (.lst (ys ++ r))), fun H3 q => ⟨xs.length - (k + 1), by omega, rfl, hlt, q⟩, fun v H3 y => ?_⟩
          obtain ⟨sm, d, ed, rd⟩ := w.yld _ _ k H2 v H3 p2 y hlt
          have ex : xs.drop k = d :: xs.drop (k + 1) := by
            rw [List.drop_eq_getElem_cons hlt]
            congr 1
            rw [List.getElem?_eq_getElem hlt] at ed
            exact Option.some.inj ed
          rw [ex] at l2
          have R3 := R2.same sm
          have p3 := w.kp _ _ _ _ _ _ p2 (Kp.same (S := Fr (lcH (lcD Bi L) z) []) (ob := obs (lcH (lcD Bi L) z)) sm)
          have s3 := s2.trans sm
          have racc3 := racc.same sm
          have hacc3 := sm _ _ hacc
          have hlen2 : i < ((demote Bi ρ).set i Sl.no).length := by rw [List.length_set]; exact hl'
          have ew : L2.wipe ((L2.wipe σ [i]).set i (some v)) [i] = L2.wipe σ [i] := by
            show ((σ.set i none).set i (some v)).set i none = σ.set i none
            rw [set_set_eq, set_set_eq]
          refine ⟨ew, ?_⟩
          have e2 : ((demote Bi ρ).set i Sl.no).set i (.val d) = (demote Bi ρ).set i (.val d) := set_set_eq ..
          have R4 := R3.putVal hlen2 rd
          rw [e2] at R4
          have kL : ∀ (H5 : Hp), Kp H5 H5 (Fr (lcS (lcH (lcD Bi L) z) i none) Be) (Fn L (i :: (Bi ++ Be)) z) (obs (lcS (lcH (lcD Bi L) z) i none)) (obs L) := fun H5 => by
            refine ⟨fun a u f _ => ?_, fun _ _ _ h => h, fun _ _ h => h, fun n a h => ?_⟩
            · have nz : a ≠ z := fun e => by
                subst e
                obtain ⟨j, _, q⟩ := f (.fg a) (by rw [lcS_ne (fun e => by cases e)]; exact lcH_eq)
                cases q
              refine ⟨fun p e => ?_, nz⟩
              by_cases hp : p = .sl i
              · exact ⟨i, List.mem_cons_self, hp⟩
              · by_cases hq : ∃ j, p = .sl j ∧ j ∈ Bi
                · obtain ⟨j, hj, mj⟩ := hq
                  exact ⟨j, List.mem_cons_of_mem _ (List.mem_append_left _ mj), hj⟩
                · have hg : p ≠ .fg z := fun q => by
                    subst q
                    exact nz (R.fgs z a e)
                  obtain ⟨j, mj, hj⟩ := f p (by
                    rw [lcS_ne hp, lcH_ne hg]
                    cases p with
                    | sl j =>
                      show (if j ∈ Bi then none else L (.sl j)) = _
                      rw [if_neg (fun m => hq ⟨j, rfl, m⟩)]
                      exact e
                    | fd n f => exact e
                    | ob n => exact e
                    | fg b => exact e)
                  exact ⟨j, List.mem_cons_of_mem _ (List.mem_append_right _ mj), hj⟩
            · have h : lcS (lcH (lcD Bi L) z) i none (.ob n) = some a := h
              rw [lcS_ne (fun e => by cases e), lcH_ne (fun e => by cases e)] at h
              exact h
          refine ⟨F2, _, ω, _, R4, ?_⟩
          replace l2 : LeafF W Wx L (i :: (Bi ++ Be)) σ H Q ((match tt ((demote Bi ρ).set i (.val d)) ω with
            | .ok true => (match me ((demote Bi ρ).set i (.val d)) ω with
              | .ok y => (compL i tt me ω (demote Bi ρ) (xs.drop (k + 1))).bind fun ys => .ok (y :: ys)
              | _ => .stuck)
            | .ok false => compL i tt me ω (demote Bi ρ) (xs.drop (k + 1))
            | _ => .stuck).bind fun r => .ok (.lst (ys ++ r))) := l2
          cases zt : tt ((demote Bi ρ).set i (.val d)) ω with
          | stuck => rw [zt] at l2; exact l2.elim
          | err e => rw [zt] at l2; exact l2.elim
          | ok b =>
            rw [zt] at l2
            intro H4 s4
            cases b with
            | false =>
              rw [if_neg Bool.false_ne_true]
              exact ⟨F2, ys, acc, R3.same s4, w.kp _ _ _ _ _ _ p3 (Kp.same s4), s4 _ _ hacc3, Nat.le_succ_of_le hal, s3.trans s4, racc3.same s4, l2⟩
            | true =>
              rw [if_pos rfl]
              refine ⟨F2, _, ω, _, R4.same s4, ?_⟩
              replace l2 : LeafF W Wx L (i :: (Bi ++ Be)) σ H Q ((match me ((demote Bi ρ).set i (.val d)) ω with
              | .ok y => (compL i tt me ω (demote Bi ρ) (xs.drop (k + 1))).bind fun ys => .ok (y :: ys)
              | _ => .stuck).bind fun r => .ok (.lst (ys ++ r))) := l2
              cases zm : me ((demote Bi ρ).set i (.val d)) ω with
              | stuck => rw [zm] at l2; exact l2.elim
              | err e => rw [zm] at l2; exact l2.elim
              | ok y =>
                rw [zm] at l2
                intro yv H5 s5 ry
                have s45 := s4.trans s5
                have hacc5 := s45 _ _ hacc3
                refine ⟨acc, hacc5, by rw [sizeLine_eq]; omega, ?_⟩
                have k5 : Kp H5 (upd H5 z (.lst (acc ++ [yv]))) (Fn L (i :: (Bi ++ Be)) z) (Fn L (i :: (Bi ++ Be)) z) (obs L) (obs L) :=
                  ⟨fun _ _ f _ => f, fun a u f h => by rw [upd_ne f.2]; exact h, fun a vs h => by rw [upd_ne (fun e => by rw [e, hacc5] at h; cases h)]; exact h, fun _ _ h => h⟩
                refine ⟨_, ys ++ [y], acc ++ [yv], (R3.same s45).chg LD hacc5, w.kp _ _ _ _ _ _ (w.kp _ _ _ _ _ _ p3 (Kp.same s45)) (kp_chg LD hacc5), upd_same, by rw [List.length_append]; exact Nat.succ_le_succ hal, Same.upd_left (Same.trans s3 s45) hz0,
                  Reps.mono k5 _ _ ((racc3.same s45).app (Reps.one (Rep.mono (kL H5) _ _ ry))), ?_⟩
                cases zc : compL i tt me ω (demote Bi ρ) (xs.drop (k + 1)) with
                | stuck => rw [zc] at l2; exact l2.elim
                | err e => rw [zc] at l2; exact l2
                | ok rs =>
                  rw [zc] at l2
                  show LeafF W Wx L (i :: (Bi ++ Be)) σ H Q (.ok (.lst (ys ++ [y] ++ rs)))
                  rw [List.append_assoc]
                  exact l2
        · have e : k = xs.length := by omega
          subst e
          refine .inl ⟨w.stop _ _ _ H2 p2 (Nat.le_refl _), ?_⟩
          rw [List.drop_length] at l2
          replace l2 : LeafF W Wx L (i :: (Bi ++ Be)) σ H Q (.ok (.lst (ys ++ []))) := l2
          rw [List.append_nil] at l2
          exact l2.ret s2 hz0 ⟨acc, hacc, racc⟩
      · exact h.elim
  · exact h.elim
section
variable {X : Cx} {Wx : WX} {pos spos p py : Pos} {elt iter : Expr} {Bi Be : List Nat} {ms : MA} {i n : Nat} {x y : Str} {scope : Scope} {tt : Env' → Store → Res Bool} {me : M} {ifs : List Expr} {tg : Expr}
/-- no condition -/
structure DTs (X : Cx) (Wx : WX) (ifs : List Expr) (m : Env' → Store → Res Bool) : Prop where
  pts : PTs X ifs (tT (wd X) Wx m)
theorem ts_nil : DTs X Wx [] bTrue := ⟨⟨fun pins s σ H Q I h => by
  obtain ⟨F, ρ, ω, L, R, h⟩ := h
  exact pts_nil.run pins s σ H Q I (h H (Same.refl H))⟩⟩
theorem ts_one {c : Expr} (h : DB X Wx c tt) : DTs X Wx [c] tt := ⟨pts_one h.pt⟩
theorem f_lc {i : Nat} (hc : X.calm = true) (hN : X.N.Nodup) (hi : DI X Wx Bi tg iter ms) (ok : BlkOk X.N X.env.scope scope [(x, i)])
    (hg : ∀ (s : Shared) (H : Hp) (C : Addr) (cl : List (Str × Addr)) (fp : List Addr), PG (X.blk s H scope (compEnvC scope cl C X.env) fp) tg (gName i))
    (ht : ∀ (s : Shared) (H : Hp) (C : Addr) (cl : List (Str × Addr)) (fp : List Addr), DTs (X.blk s H scope (compEnvC scope cl C X.env) fp) W0 ifs tt)
    (he : ∀ (s : Shared) (H : Hp) (C : Addr) (cl : List (Str × Addr)) (fp : List Addr), DP (X.blk s H scope (compEnvC scope cl C X.env) fp) W0 Be elt me) (hs : ∀ x, foldedSetIterable iter X.env x = pure x := by intro _; rfl) :
    DF X Wx (i :: (Bi ++ Be)) (.ListComp elt [⟨tg, iter, ifs, 0⟩] scope pos) (mComp i Bi ms tt me) :=
  ⟨PE.weak (pe_lc hc hN hi.pi ok hg (fun s H C cl fp => (ht s H C cl fp).pts) (fun s H C cl fp => (he s H C cl fp).pe) hs) fun σ H Q ⟨F, ρ, ω, L, R, h⟩ => lc_read R h⟩
end
end DL
namespace DL
open PySem PySem.Spec PyProof.Rows L2

/-! ### what a def does -/
inductive RR where
  | stuck
  | ok (d : D) (ω : Store)
  | er (e : Er) (ω : Store)
abbrev Fu := Nat → List D → Store → RR
def NoSl (L : Lc) : Prop := ∀ i, L (.sl i) = none
def LeafC (W : Wd) (F : Fm) (Q : VK) (E : XK) : RR → Prop
  | .stuck => False
  | .ok d ω => ∀ v H' L', Rel W F [] ω L' [] H' → NoSl L' → Rep W H' (Fr L' []) (obs L') d v → Q v H'
  | .er e ω => ∀ cls dd H' L', Rel W F [] ω L' [] H' → NoSl L' → Exc W H' e cls dd → E cls dd H'
/-- its promise -/
def spF (W : Wd) (n : Nat) (f : Fu) : Sp := fun vs H Q E => vs.length = n ∧ ∃ n0 L ω ds, Rel W ⟨n0, L, H⟩ [] ω L [] H ∧ NoSl L ∧ Reps W H (Fr L []) (obs L) ds vs ∧ LeafC W ⟨n0, L, H⟩ Q E (f n0 ds ω)
@[simp] def toRR : RS → RR
  | .nx _ ω => .ok .non ω
  | .rt d ω => .ok d ω
  | .er e ω => .er e ω
  | _ => .stuck
@[simp] def envS (n : Nat) (ds : List D) : Env' := ds.map .val ++ List.replicate (n - ds.length) .no
@[simp] def fuOf (n : Nat) (g : T) : Fu := fun n0 ds ω => toRR (g n0 (envS n ds) ω)
/-! the slots fall -/
def lcN (L : Lc) : Lc := fun p => match p with
  | .sl _ => none
  | p => L p
theorem lcN_some {L : Lc} {p : Pl} {a : Addr} (h : lcN L p = some a) : L p = some a ∧ ∀ i, p ≠ .sl i := by
  cases p with
  | sl i => cases h
  | fd n f => exact ⟨h, fun i e => by cases e⟩
  | ob n => exact ⟨h, fun i e => by cases e⟩
  | fg a => exact ⟨h, fun i e => by cases e⟩
theorem lcN_no {L : Lc} : NoSl (lcN L) := fun _ => rfl
section
variable {W : Wd} {F : Fm} {ρ ρ' : Env'} {ω ω' : Store} {L L' : Lc} {σ σ' : L2.St} {H H' : Hp} {B : List Nat} {z : Addr}
theorem kp_strip : Kp H H (Fr L []) (Fr (lcN L) []) (obs L) (obs (lcN L)) := ⟨fun a u f _ p e => f p (lcN_some e).1, fun _ _ _ h => h, fun _ _ h => h, fun n a h => h⟩
theorem kp_stripA : Kp H H (FrA L) (Fr (lcN L) []) (obs L) (obs (lcN L)) := ⟨fun a u f _ p e => by
  obtain ⟨i, q⟩ := f p (lcN_some e).1
  exact absurd q ((lcN_some e).2 i), fun _ _ _ h => h, fun _ _ h => h, fun n a h => h⟩
theorem Rel.strip (R : Rel W F ρ ω L σ H) : Rel W F [] ω (lcN L) [] H where
  inj := fun p q a e1 e2 => R.inj p q a (lcN_some e1).1 (lcN_some e2).1
  alive := fun p a e => R.alive p a (lcN_some e).1
  aft := ⟨R.aft.keep, fun i a e => (nomatch e), fun p a m e => R.aft.newM p a m (lcN_some e).1, fun p m => by
    cases p with
    | sl i => exact absurd trivial m
    | fd n f => exact R.aft.prot _ m
    | ob n => exact R.aft.prot _ m
    | fg b => exact R.aft.prot _ m, R.aft.obk, R.aft.there⟩
  fgs := R.fgs
  len := rfl
  sl := fun i s e => by cases e
  st := fun n o e => ObR.places kp_strip (fun f => rfl) (R.st n o e)
  dom := R.dom
theorem Rel.begin {n0 : Nat} {N : List Str} {ds : List D} {vs : List V} (R : Rel W ⟨n0, L, H⟩ [] ω L [] H) (q : Reps W H (Fr L []) (obs L) ds vs) : Rel W ⟨n0, L, H⟩ (envS N.length ds) ω L (L2.start N vs) H where
  inj := R.inj
  alive := R.alive
  aft := R.aft
  fgs := R.fgs
  len := by
    unfold L2.start envS
    rw [List.length_append, List.length_append, List.length_map, List.length_map, List.length_replicate, List.length_replicate, q.len]
  sl := fun i s e => by
    unfold envS at e
    unfold L2.start
    by_cases hi : i < ds.length
    · rw [List.getElem?_append_left (by rw [List.length_map]; exact hi), List.getElem?_map, List.getElem?_eq_getElem hi] at e
      cases e
      obtain ⟨v, e1, r⟩ := q.get (List.getElem?_eq_getElem hi)
      refine ⟨v, ?_, r⟩
      rw [List.getElem?_append_left (by rw [List.length_map, q.len]; exact hi), List.getElem?_map, e1]
      rfl
    · rw [List.getElem?_append_right (by rw [List.length_map]; omega), List.getElem?_replicate] at e
      split at e
      · cases e; trivial
      · cases e
  st := R.st
  dom := R.dom
end
section
variable {P : Program} {w : World} {K : PySem.W.Frag} {mg : Str → Option Value} {base : Heap} {x qual : Str} {params : Arguments} {body : List Stmt} {scope : Scope} {f : Addr} {fd : FuncData} {N ps : List Str} {k : Nat} {g : T}
/-- a def keeps its promise -/
theorem fn_ok (F : FunD K x qual params body scope [] [] f fd) (S : FnScope N ps scope)
    (hbody : ∀ (cdv : Value) (A : Around) (outer : List Env) (s : Shared) (H : Hp) (E : XK), Room k (A.deeper (envOfC qual scope s.heap.objs.size f cdv)) →
      DSs (cxOf (L2.CX P w) P w K mg base N qual scope f cdv A outer s H E) (fun cls d _ H => E cls d H) body g) : FnOk P w K mg base (L2.CX P w) (k + 1) f fd ps (spF ⟨K, mg⟩ ps.length (fuOf N.length g)) := by
  refine F.ok S (fun vs H Q E h => h.1) (fun cdv A outer s H vs Q E hr h => ⟨_, (hbody cdv A outer s H E hr).pss, ?_⟩)
  obtain ⟨hl, n0, L, ω, ds, R, ns, q, h⟩ := h
  refine ⟨⟨n0, L, H⟩, envS N.length ds, ω, L, R.begin q, ?_⟩
  replace h : LeafC ⟨K, mg⟩ ⟨n0, L, H⟩ Q E (toRR (g n0 (envS N.length ds) ω)) := h
  show LeafS ⟨K, mg⟩ _ _ _ (g n0 (envS N.length ds) ω)
  cases z : g n0 (envS N.length ds) ω with
  | stuck => rw [z] at h; exact h
  | bk ρ ω => rw [z] at h; exact h.elim
  | ct ρ ω => rw [z] at h; exact h.elim
  | nx ρ' ω' => rw [z] at h; exact fun σ' H' L' R' => h _ H' _ R'.strip lcN_no rfl
  | rt d ω' => rw [z] at h; exact fun v ρ' σ' H' L' R' r => h _ H' _ R'.strip lcN_no (Rep.mono kp_stripA d v r)
  | er e ω' => rw [z] at h; exact fun cls dd ρ' σ' H' L' R' r => h _ _ H' _ R'.strip lcN_no r
end
/-! ### a call -/
section
open Classical in
noncomputable def lcC (L : Lc) (B : List Nat) : Lc := fun p => match p with
  | .sl _ => none
  | .fg a => if L (.fg a) = some a ∨ ∃ i, i ∉ B ∧ L (.sl i) = some a then some a else none
  | p => L p
end
section
variable {W : Wd} {F : Fm} {ρ ρ' : Env'} {ω ω' : Store} {L L' : Lc} {σ σ' : L2.St} {H H' : Hp} {B : List Nat} {z : Addr}
theorem lcC_some {p : Pl} {a : Addr} (h : lcC L B p = some a) : ∃ p', L p' = some a ∧ ((p' = p ∧ ∀ i, p ≠ .sl i) ∨ (p = .fg a ∧ ∃ i, i ∉ B ∧ p' = .sl i)) := by
  cases p with
  | sl i => cases h
  | fd n f => exact ⟨_, h, .inl ⟨rfl, fun i e => by cases e⟩⟩
  | ob n => exact ⟨_, h, .inl ⟨rfl, fun i e => by cases e⟩⟩
  | fg b =>
    unfold lcC at h
    dsimp only at h
    split at h
    · rename_i c
      cases h
      rcases c with c | ⟨i, m, c⟩
      · exact ⟨_, c, .inl ⟨rfl, fun i e => by cases e⟩⟩
      · exact ⟨_, c, .inr ⟨rfl, i, m, rfl⟩⟩
    · cases h
theorem lcC_fg {a : Addr} (h : L (.fg a) = some a ∨ ∃ i, i ∉ B ∧ L (.sl i) = some a) : lcC L B (.fg a) = some a := by
  unfold lcC
  dsimp only
  rw [if_pos h]
theorem lcC_no : NoSl (lcC L B) := fun _ => rfl
theorem kp_call : Kp H H (Fr L B) (Fr (lcC L B) []) (obs L) (obs (lcC L B)) := ⟨fun a u f _ p e => by
  obtain ⟨p', e1, e2⟩ := lcC_some e
  obtain ⟨i, m, q⟩ := f p' e1
  rcases e2 with ⟨e2, e3⟩ | ⟨e2, j, mj, e3⟩
  · exact absurd (e2.symm.trans q) (e3 i)
  · rw [q] at e3
    cases e3
    exact absurd m mj, fun _ _ _ h => h, fun _ _ h => h, fun n a h => h⟩
theorem kp_call0 : Kp H H (Fr L []) (Fr (lcC L B) []) (obs L) (obs (lcC L B)) := ⟨fun a u f h => kp_call.s a u (Fr.mono (fun _ h => by cases h) f) h, fun _ _ _ h => h, fun _ _ h => h, fun n a h => h⟩
theorem SltR.exw {p : Pl} {ex ex' : Bool} (w : ex' = true → ex = true) : ∀ {s : Sl} {v : Option V}, SltR W H L p ex s v → SltR W H L p ex' s v
  | .no, _, _ => trivial
  | .val d, v, h => h
  | .own d, v, ⟨a, e, l, h⟩ => ⟨a, e, l, RepO.mono (Kp.same (Same.refl H)) (fun u h => ⟨fun q => h.1 (w q), h.2⟩) (fun _ h => h) h⟩
theorem FsR.exw {n : Nat} {ex ex' : Bool} (w : ex' = true → ex = true) : ∀ {fs : List (Str × Sl)} {vs : List (Str × V)}, FsR W H L n ex fs vs → FsR W H L n ex' fs vs
  | [], _, h => h
  | (f, x) :: r, _, ⟨v, t, e, h, q⟩ => ⟨v, t, e, SltR.exw w h, FsR.exw w q⟩
theorem ObR.exw {n : Nat} {ex ex' : Bool} {o : Ob} (w : ex' = true → ex = true) (h : ObR W H L ex n o) : ObR W H L ex' n o := by
  obtain ⟨p, C, dx, fs, e1, e2, e3, q⟩ := h.at_
  exact ⟨p, C, dx, fs, e1, e2, e3, FsR.exw w q⟩
/-- what the callee meets -/
theorem Rel.into (R : Rel W F ρ ω L σ H) (B : List Nat) (n1 : Nat) (hn : ∀ n, n < ω.length → n1 ≤ n → F.n0 ≤ n) : Rel W ⟨n1, lcC L B, H⟩ [] ω (lcC L B) [] H where
  inj := fun p q a e1 e2 => by
    obtain ⟨p', f1, g1⟩ := lcC_some e1
    obtain ⟨q', f2, g2⟩ := lcC_some e2
    have e := R.inj p' q' a f1 f2
    subst e
    rcases g1 with ⟨g1, k1⟩ | ⟨g1, i, mi, k1⟩
    · rcases g2 with ⟨g2, k2⟩ | ⟨g2, j, mj, k2⟩
      · exact g1.symm.trans g2
      · exact absurd (g1.symm.trans k2) (k1 j)
    · rcases g2 with ⟨g2, k2⟩ | ⟨g2, j, mj, k2⟩
      · exact absurd (g2.symm.trans k1) (k2 i)
      · exact g1.trans g2.symm
  alive := fun p a e => by
    obtain ⟨p', f1, _⟩ := lcC_some e
    exact R.alive p' a f1
  aft := Aft.refl
  fgs := fun a b e => by
    unfold lcC at e
    dsimp only at e
    split at e
    · exact (Option.some.inj e).symm
    · cases e
  len := rfl
  sl := fun i s e => by cases e
  st := fun n o e => by
    have hl : n < ω.length := (List.getElem?_eq_some_iff.mp e).1
    refine ObR.exw (ex := decide (F.n0 ≤ n)) (fun q => ?_) (ObR.places (kp_call0) (fun f => rfl) (R.st n o e))
    exact decide_eq_true (hn n hl (of_decide_eq_true q))
  dom := R.dom
end
end DL
namespace DL
open PySem PySem.Spec PyProof.Rows L2

/-! ### the pure call -/
section
variable {W : Wd} {F : Fm} {ρ ρ' : Env'} {ω ω' : Store} {L L' : Lc} {σ σ' : L2.St} {H H' : Hp} {B : List Nat} {z : Addr}
@[simp] def ofRR (ω : Store) : RR → Res D
  | .stuck => .stuck
  | .ok d ω' => if ω'.length = ω.length then .ok d else .stuck
  | .er e _ => .err e
@[simp] def mCall (n : Nat) (f : Fu) (ma : MA) : M := fun ρ ω => (ma ρ ω).bind fun ds => if ds.length = n then ofRR ω (f ω.length ds ω) else .stuck
theorem call_keep {n1 : Nat} (R : Rel W F ρ ω L σ H) (R' : Rel W ⟨n1, lcC L B, H⟩ [] ω' L' [] H') (hn : ω.length ≤ n1) : Same H H' := fun a u h => R'.aft.keep a u h fun p e m => by
  cases p with
  | sl i => cases e
  | fg b => exact m
  | fd n f =>
    have z := (R.dom n (Nat.le_trans hn m)).2 f
    have e : L (.fd n f) = some a := e
    rw [z] at e; cases e
  | ob n =>
    have z := (R.dom n (Nat.le_trans hn m)).1
    have e : L (.ob n) = some a := e
    rw [z] at e; cases e
theorem call_back {n1 : Nat} (R : Rel W F ρ ω L σ H) (R' : Rel W ⟨n1, lcC L B, H⟩ [] ω' L' [] H') (hn : ω.length ≤ n1) (hl : ω'.length = ω.length) : Kp H' H' (Fr L' []) (Fr L B) (obs L') (obs L) where
  s := fun a u f h p e => by
    have no : ∀ q, L' q = some a → False := fun q z => by
      obtain ⟨i, m, _⟩ := f q z
      cases m
    cases p with
    | sl i =>
      by_cases m : i ∈ B
      · exact ⟨i, m, rfl⟩
      · exact (no _ ((R'.aft.prot (.fg a) (fun z => z)).trans (lcC_fg (.inr ⟨i, m, e⟩)))).elim
    | fg b =>
      have := R.fgs b a e
      subst this
      exact (no _ ((R'.aft.prot (.fg a) (fun z => z)).trans (lcC_fg (.inl e)))).elim
    | fd n f =>
      refine (no _ ((R'.aft.prot (.fd n f) (fun z => ?_)).trans e)).elim
      rw [(R.dom n (Nat.le_trans hn z)).2 f] at e; cases e
    | ob n =>
      refine (no _ ((R'.aft.prot (.ob n) (fun z => ?_)).trans e)).elim
      rw [(R.dom n (Nat.le_trans hn z)).1] at e; cases e
  k := fun _ _ _ h => h
  t := fun _ _ h => h
  o := fun n a h => by
    have h : L' (.ob n) = some a := h
    by_cases hd : n < ω.length
    · have := R'.aft.prot (.ob n) (fun z => absurd (Nat.lt_of_lt_of_le hd hn) (Nat.not_lt.mpr z))
      rw [h] at this
      exact this.symm
    · rw [(R'.dom n (by omega)).1] at h; cases h
end
section
variable {X : Cx} {Wx : WX} {pos p p' p1 p2 apos cpos : Pos} {a b c e : Expr} {es : List Expr} {Ba Bb B : List Nat} {ma mb m : M} {x y : Str} {k fa : Nat} {f : Addr} {fd : FuncData} {ps : List Str} {g : Fu} {mr : MA} {i : Nat}
theorem d_call {g : Fu} (F : FnOk X.prog X.w X.K X.mg X.base (L2.CX X.prog X.w) k f fd ps (spF (wd X) ps.length g)) (hr : Room k X.A) (hg : Gl X x) (hm : X.mg x = some (.ref f)) (hk : PySem.W.keepIn X.K (.ref f) = true) (hb : Binds X.K fd ps []) (tk : Takes X Wx)
    (ha : DA X Wx B (e :: es) mr) (hdb : (x == ("__debug__" : Str)) = false := by decide) (he : starEach (e :: es) X.env = (false, eval e X.env) :: starEach es X.env := by rfl) (hpl : (backTo pos (starEach es X.env)).any (·.1) = false := by rfl) :
    DP X Wx B (.Call (.Name x p) (e :: es) [] pos) (mCall ps.length g mr) :=
  ⟨PE.weak (pe_callSD F hr hg hm hk hb .nil (passAt tk) ha.pa hdb he hpl) fun σ H Q ⟨F0, ρ, ω, L, R, h⟩ => by
    refine ⟨F0, ρ, ω, L, R, ?_⟩
    unfold mCall at h
    cases z : mr ρ ω with
    | stuck => rw [z] at h; exact h
    | err e => rw [z] at h; exact h
    | ok ds =>
      rw [z] at h
      replace h : Leaf (wd X) Wx L B σ H Q (if ds.length = ps.length then ofRR ω (g ω.length ds ω) else .stuck) := h
      intro vs H1 s q
      have R1 := R.same s
      split at h
      case isFalse => exact h.elim
      rename_i hds
      have hlen : ps.length = vs.length := by rw [q.len, hds]
      rw [List.append_nil]
      refine ⟨hlen.symm, ω.length, lcC L B, ω, ds, R1.into B ω.length (fun n h1 h2 => absurd h1 (Nat.not_lt.mpr h2)), lcC_no, Reps.mono kp_call ds vs q, ?_⟩
      cases zg : g ω.length ds ω with
      | stuck => rw [zg] at h; exact h
      | er e ω' => 
        rw [zg] at h
        exact fun cls dd H2 L' R' ns x => h cls dd H2 (s.trans (call_keep R1 R' (Nat.le_refl _))) x
      | ok d ω' =>
        rw [zg] at h
        replace h : Leaf (wd X) Wx L B σ H Q (if ω'.length = ω.length then .ok d else .stuck) := h
        split at h
        · rename_i hl
          exact fun v H2 L' R' ns r => h v H2 (s.trans (call_keep R1 R' (Nat.le_refl _))) (Rep.mono (call_back R1 R' (Nat.le_refl _) hl) d v r)
        · exact h.elim⟩
end
/-! ### a change at a place -/
section
variable {W : Wd} {F : Fm} {ρ ρ' : Env'} {ω ω' : Store} {L L' : Lc} {σ σ' : L2.St} {H H' : Hp} {B : List Nat} {a : Addr} {u : HO} {p : Pl}
theorem kp_poke (R : Rel W F ρ ω L σ H) (hp : L p = some a) (np : ∀ i, p ≠ .sl i ∨ B = []) (hu : isC u = true) : Kp H (upd H a u) (Fr L []) (Fr L []) (obs L) (obs L) where
  s := fun _ _ f _ => f
  k := fun b v f h => by
    have n : b ≠ a := fun e => by
      subst e
      obtain ⟨i, m, _⟩ := f p hp
      cases m
    rw [upd_ne n]; exact h
  t := fun b vs h => by
    rw [upd_ne (fun e => by
      subst e
      obtain ⟨w, h1, c⟩ := R.alive p b hp
      rw [h] at h1
      cases h1
      cases c)]
    exact h
  o := fun _ _ h => h
theorem ne_poke (R : Rel W F ρ ω L σ H) (hp : L p = some a) {q : Pl} {b : Addr} (nq : q ≠ p) (hq : L q = some b) : b ≠ a := fun e => nq (R.inj q p b hq (by rw [e]; exact hp))
theorem aft_poke (R : Rel W F ρ ω L σ H) (hp : L p = some a) (m : Mt F.n0 p) : Aft F.n0 F.L0 F.H0 L (upd H a u) where
  keep := fun b v h hb => by
    have n : b ≠ a := fun e => by
      subst e
      rcases R.aft.new p b m hp with ⟨q, mq, eq⟩ | z
      · exact hb q eq mq
      · rw [h] at z; cases z
    rw [upd_ne n]
    exact R.aft.keep b v h hb
  newS := R.aft.newS
  newM := R.aft.newM
  prot := R.aft.prot
  obk := R.aft.obk
  there := fun b v h => by
    by_cases e : b = a
    · exact ⟨u, by rw [e, upd_same]⟩
    · obtain ⟨w, q⟩ := R.aft.there b v h
      exact ⟨w, by rw [upd_ne e]; exact q⟩
theorem alive_poke (R : Rel W F ρ ω L σ H) (hp : L p = some a) (hu : isC u = true) : ∀ q b, L q = some b → ∃ v, upd H a u b = some v ∧ isC v = true := fun q b e => by
  by_cases h : b = a
  · exact ⟨u, by rw [h, upd_same], hu⟩
  · obtain ⟨v, h1, c⟩ := R.alive q b e
    exact ⟨v, by rw [upd_ne h]; exact h1, c⟩
theorem Rel.pokeS (R : Rel W F ρ ω L σ H) {i : Nat} (hp : L (.sl i) = some a) (hu : isC u = true) {d : D} (hs : σ[i]?.join = some (.ref a)) (hd : RepO W (upd H a u) (Fr L []) (obs L) true d a) : Rel W F (ρ.set i (.own d)) ω L σ (upd H a u) where
  inj := R.inj
  alive := alive_poke R hp hu
  aft := aft_poke R hp trivial
  fgs := R.fgs
  len := by rw [List.length_set]; exact R.len
  sl := fun j s e => by
    by_cases h : j = i
    · subst h
      have hl : j < ρ.length := by
        have := (List.getElem?_eq_some_iff.mp e).1
        rwa [List.length_set] at this
      rw [List.getElem?_set_self hl] at e
      cases e
      exact ⟨a, hs, hp, hd⟩
    · rw [List.getElem?_set_ne (Ne.symm h)] at e
      exact SltR.chg (kp_poke (B := []) R hp (fun _ => .inr rfl) hu) (fun b q => upd_ne (ne_poke R hp (fun z => h (by cases z; rfl)) q)) (R.sl j s e)
  st := fun n o e => by
    obtain ⟨q, C, dx, fs, e1, e2, e3, r⟩ := (R.st n o e).at_
    exact ⟨q, C, dx, fs, e1, e2, by rw [upd_ne (ne_poke R hp (fun z => by cases z) e1)]; exact e3, FsR.chg (kp_poke (B := []) R hp (fun _ => .inr rfl) hu) (fun f b q => upd_ne (ne_poke R hp (fun z => by cases z) q)) r⟩
  dom := R.dom
end
/-! ### name.append(e) -/
section
variable {X : Cx} {Wx : WX} {pos p p' p1 p2 apos cpos : Pos} {a b c e : Expr} {es : List Expr} {Ba Bb B : List Nat} {ma mb m : M} {x y : Str} {i : Nat}
@[simp] noncomputable def sApp (i : Nat) (B : List Nat) (m : M) : T := fun _ ρ ω => match ρ[i]? with
  | some (.own (.lst _)) => ofE (m ρ ω) ω fun d => (match (dem B d ρ)[i]? with
    | some (.own (.lst xs)) => @ite _ (xs.length < 1000000) (Classical.propDecidable _) (.nx ((dem B d ρ).set i (.own (.lst (xs ++ [d])))) ω) .stuck
    | _ => .stuck)
  | _ => .stuck
theorem slot_at {σ : L2.St} {i : Nat} {v : V} (h : σ[i]?.join = some v) : σ[i]? = some (some v) := by
  cases z : σ[i]? with
  | none => rw [z] at h; cases h
  | some y => rw [z] at h; exact congrArg some h
theorem s_app (i : Nat) (he : DP X Wx B e m) (hN : X.N[i]? = some x := by rfl) (hv : Vis X.env.scope x := by first | exact Or.inl rfl | exact Or.inr (Or.inl rfl) | exact Or.inr (Or.inr rfl)) (hd : (x == ("__debug__" : Str)) = false := by decide)
    (hcd : (x == ("__classdict__" : Str)) = false := by decide)
    (hbase : attributeBase (.Name x p) "append" X.env (eval (.Name x p) X.env) = eval (.Name x p) X.env := by rfl)
    (hfew : ((backTo cpos (starEach (e :: []) X.env)).all (fun x => !x.1) && (backToKw cpos (keywordEach [] X.env)).all (fun x => x.1.isSome)
      && decide ((e :: ([] : List Expr)).length + ([] : List Keyword).length + (if ([] : List Keyword).isEmpty then 0 else 1) < 30)) = true := by rfl)
    (hline : (apos.endLine == cpos.line) = true := by rfl) (hs : starEach (e :: []) X.env = (false, eval e X.env) :: starEach [] X.env := by rfl) (hplain : (backTo cpos (starEach [] X.env)).any (·.1) = false := by rfl)
    (hsw : swapsWith (.Call (.Attribute (.Name x p) "append" apos) [e] [] cpos) none pos.line X.env = pure false := by rfl) :
    DS X Wx (.Expr (.Call (.Attribute (.Name x p) "append" apos) [e] [] cpos) pos) (sApp i B m) :=
  ⟨PS.weak (ps_expr (pe_bm PySem.F.plainAttrs_list PySem.F.slot_list_append PySem.F.type_list_append mt_append (pe_var (i := i) hN hv hd hcd) (pa_cons he.pe pa_nil hs) hbase hfew hline hs hplain) hsw) fun G σ H ⟨F, ρ, ω, L, R, h⟩ => by
    unfold sApp at h
    split at h
    · rename_i xs0 e0
      obtain ⟨a, e1, l, vs0, h1, _⟩ := R.sl i _ e0
      refine ⟨.ref a, slot_at e1, .inl ⟨rfl, vs0, SqL.of h1⟩, F, ρ, ω, L, R, leafS_bind (k := fun d => match (dem B d ρ)[i]? with
    | some (.own (.lst xs)) => @ite _ (xs.length < 1000000) (Classical.propDecidable _) (.nx ((dem B d ρ).set i (.own (.lst (xs ++ [d])))) ω) .stuck
    | _ => .stuck) R h fun d v H1 _ s R1 q lf => ?_⟩
      obtain ⟨L2, R2, q2⟩ := R1.loosen q
      split at lf
      · rename_i xs ei
        split at lf
        · rename_i hlen
          obtain ⟨b, f1, l2, vs, h2, r2⟩ := R2.sl i _ ei
          have eb : b = a := by
            have := f1.symm.trans e1
            exact V.ref.inj (Option.some.inj this)
          subst eb
          refine ⟨b, vs, v, rfl, rfl, h2, by rw [r2.len, sizeLine_eq]; omega, lf _ _ L2 (R2.pokeS l2 rfl f1 ⟨vs ++ [v], upd_same, ?_⟩)⟩
          exact (Reps.mono (kp_poke (B := []) R2 l2 (fun _ => .inr rfl) rfl) _ _ r2).app (Reps.one (Rep.mono (kp_poke (B := []) R2 l2 (fun _ => .inr rfl) rfl) _ _ q2))
        · exact lf.elim
      · exact lf.elim
    · exact h.elim⟩
end
end DL
namespace DL
open PySem PySem.Spec PySem.Calls PyProof.Rows L2
open PySem.W (Frag InstAt Looks KitX findIn subIn hasDictIn typeIn specialIn takesIn mroIn keepIn findObj)

/-! ### isinstance of an exception that has its dict -/
section
variable {prog : Program} {w : World} {A : Around} {E : Value → Shared → Prop} {s : Shared} {K : Frag} {x D : Addr} {ox od : Obj}
theorem exd_class {Q : Option Value → Shared → Prop} (c : ExcC K D) (X : K.In s.heap) (I : InstAt s.heap x ox D (some od)) (h : Q (some (.ref D)) { s with toks := s.toks + 1 }) : wpAny (model prog w) A (getAttr? (.ref x) "__class__") Q E s := by
  have own : findObj K D (some od) "__class__" = some (.bind (.builtin "getset_descriptor.__get__") (.builtin "object.__class__")) := PySem.W.findObj_data (by obtain ⟨cd, hc, _⟩ := PySem.W.any_some c.hd; rw [hc]; rfl) c.ha c.hn c.ht
  obtain ⟨hp, g, d, t, os⟩ := s
  have T0 := I.type (M := model prog w)
  have T1 := PySem.W.looks_findIn (M := model prog w) X c.hg
  have T2 := PySem.W.looks_findIn (M := model prog w) X c.hk
  have T3 := PySem.W.looks_find (M := model prog w) X I own
  have T4 : Looks (model prog w) hp (isInstance (.ref x) (.type "BaseException")) true := T0.andThen (PySem.W.looks_subIn X c.hs)
  have n2 : (Value.builtin "BaseException.__getattribute__" == Value.builtin "object.__getattribute__") = false := by decide +kernel
  have n1 : (onTheHeap (Value.ref D) && Value.builtin "BaseException.__getattribute__" == Value.builtin "object.__getattribute__") = false := by rw [n2]; rfl
  unfold getAttr? getAttrBy? getAttrBy; refine wpAny_bind (wpAny_mkText (wpAny_bind (wpAny_attempt (wpAny_holding (wpAny_bind (T0.at (wpAny_bind (T1.at ?_))))))))
  show wpAny _ _ (if (onTheHeap (Value.ref D) && Value.builtin "BaseException.__getattribute__" == Value.builtin "object.__getattribute__") = true then _ else _) _ _ _; rw [n1, if_neg Bool.false_ne_true]
  unfold getAttrByItsOwn hookBefore; refine wpAny_bind ?_; rw [if_pos (show onTheHeap (Value.ref D) = true from rfl)]; refine T2.at ?_
  refine wpAny_bind (wpAny_attempt (wpAny_holding ?_)); unfold callGetattribute; rw [show (false && onTheHeap (Value.builtin "BaseException.__getattribute__")) = false from rfl, if_neg Bool.false_ne_true]
  unfold boundAndCalled; rw [PySem.F.excAttr_ValueError.ga.bind (.ref x)]; refine wpAny_bind (wpAny_pure ?_); show wpAny _ _ (call (.builtin "BaseException.__getattribute__") [.ref x, .str "__class__" t]) _ _ _
  refine wpAny_call (codeAny_call_builtin PySem.F.excAttr_ValueError.ga.plain PySem.F.entry_bexc_ga ?_); refine @PySem.W.check_slot (model prog w) _ _ ⟨hp, g, d, t + 1, os⟩ "BaseException.__getattribute__" "BaseException" "__getattribute__" (.ref x) [.str "__class__" t] [] _ (by decide +kernel) (by decide +kernel) T4 (PySem.F.args_bexc_ga (.ref x) (.str "__class__" t)) ?_
  unfold Builtin.«object.__getattribute__»; refine wpAny_bind (wpAny_of_eq (a := ((Value.ref x : Value), [Value.str "__class__" t])) (by first | rfl | (simp only [slotArgs]; rfl)) ?_)
  refine wpAny_bind (wpAny_pure (wpAny_bind (T0.at (wpAny_bind (T3.at ?_))))); show wpAny _ _ (holding [Value.builtin "object.__class__"] (call (.builtin "getset_descriptor.__get__") [.builtin "object.__class__", .ref x, .ref D]) >>= ret) _ _ _
  refine wpAny_bind (wpAny_holding (wpAny_call (PySem.W.class_get (s := ⟨hp, g, d, t + 1, os⟩) (ox := ox) (od := some od) X I c.hm ?_)))
  refine wpAny_pure ?_; show wpAny _ _ (handedOut (.ref D)) _ _ _; rw [PySem.W.handedOut_of (v := .ref D) rfl]
  first
    | exact wpAny_pure (wpAny_pure h)
    | exact wpAny_pure h
    | exact wpAny_pure (wpAny_bind (wpAny_pure (wpAny_pure h)))
theorem exd_kit (c : ExcC K D) : KitX K (.ref x) (.ref D) (fun h => InstAt h x ox D (some od)) where
  ty := fun _ _ _ I => I.type
  it := fun _ _ X _ => by
    obtain ⟨q, hq, _⟩ := PySem.W.any_some c.hd
    unfold PySem.W.clsIn at hq
    split at hq
    · rename_i o1 o2 o3 o4 ho
      exact fun A' Q' E' s' k q => by unfold isType loadHead; exact wpAny_bind (wpAny_loadPart (k _ _ (X _ _ ho)) (wpAny_pure q))
    · cases hq
  ne := fun h tp dd its n sl X htp => Bool.eq_false_iff.mpr fun q => by
    obtain ⟨z, hz, _⟩ := PySem.W.any_some c.hd
    have e : D = tp := Value.ref.inj (beq_iff_eq.mp q)
    subst e
    unfold PySem.W.clsIn at hz
    split at hz
    · rename_i o1 o2 o3 o4 ho; have y := (X _ _ ho).symm.trans htp; cases y
    · cases hz
  ca := fun X I k => exd_class c X I k
end

/-! ### what the text says of an exception's class -/
structure EC (K : Frag) (mg : Str → Option Value) (c : Str) (C fI : Addr) : Prop where
  mg : mg c = some (.ref C)
  ox : OexC K C
  iC : findIn K (.ref C) "__init__" = some (some (.ref fI))
  tI : typeIn K (.ref fI) = some (.type "function")
  no : findIn K (.ref C) "word" = some none
  xf : XfC K C
  xc : ExcC K C
def oexB (K : Frag) (C : Addr) : Bool := match K.lookup C with
  | some ⟨.type "type", _, .cls cd, sl⟩ => (match cd.mro, sl.toList with
    | .ref C' :: bm, [_, _, _, _, some (.builtin n), _] => decide (C' = C) && (decide (n = "ValueError.__new__") && (cd.hasDict && (!cd.hasDel && PySem.HandSPX.refsVE bm)))
    | _, _ => false)
  | _ => false
theorem oexB_ok {K : Frag} {C : Addr} (h : oexB K C = true) : ∃ nm q N bs bm sn sub ab col dd k0 k1 k2 k3 k5, K.lookup C = some (excClassObj nm q C N bs bm true sn sub ab col dd k0 k1 k2 k3 k5 "ValueError.__new__") ∧ PySem.HandSPX.refsVE bm = true := by
  unfold oexB at h
  split at h
  · rename_i dd cd sl lk
    split at h
    · rename_i C' bm k0 k1 k2 k3 n k5 e1 e2
      obtain ⟨h1, h⟩ := Bool.and_eq_true_iff.mp h
      obtain ⟨h2, h⟩ := Bool.and_eq_true_iff.mp h
      obtain ⟨h3, h⟩ := Bool.and_eq_true_iff.mp h
      obtain ⟨h4, h5⟩ := Bool.and_eq_true_iff.mp h
      have a1 := of_decide_eq_true h1
      have a2 := of_decide_eq_true h2
      subst a1 a2
      obtain ⟨sl⟩ := sl
      have e2 : sl = _ := e2
      subst e2
      obtain ⟨c1, c2, c3, c4, c5, c6, c7, c8, c9, c10, c11⟩ := cd
      have g1 : c3 = .ref C' :: bm := e1
      have g3 : c6 = true := h3
      have g4 : c11 = false := by
        have h4 : (!c11) = true := h4
        cases c11 with
        | false => rfl
        | true => cases h4
      clear h3 h4 e1
      subst g1 g3 g4
      exact ⟨_, _, _, _, bm, _, _, _, _, _, _, _, _, _, _, lk, h5⟩
    · cases h
  · cases h
def eqV (a b : Option Value) : Bool := decide (a = b)
def eqB (a b : Option Bool) : Bool := decide (a = b)
def ecL (K : Frag) (c : Str) : List Bool :=
  let C := He.ga K c
  let fI := He.ma K C "__init__"
  [oexB K C, He.eqO (findIn K (.ref C) "__setattr__") (some (some (.builtin "object.__setattr__"))), eqB (subIn K (.ref C) (.type "BaseException")) (some true), eqV (typeIn K (.ref C)) (some (.type "type")), keepIn K (.ref C),
   He.eqO (findIn K (.ref C) "__init__") (some (some (.ref fI))), eqV (typeIn K (.ref fI)) (some (.type "function")), He.eqO (findIn K (.ref C) "word") (some none), xfB K C,
   He.eqO (findIn K (.ref C) "__class__") (some (some (.builtin "object.__class__"))), He.eqO (specialIn K (.builtin "object.__class__") "__get__") (some (some (.builtin "getset_descriptor.__get__"))), eqB (takesIn K (.builtin "object.__class__")) (some true), eqB (mroIn K C (.type "object")) (some true), He.eqO (PySem.W.nsIn K mainGlobals c) (some (some (.ref C)))]
theorem ecL_ok {K : Frag} {h : Heap} {mg : Str → Option Value} {c : Str} (X : K.In h) (G : h.Ns mainGlobals mg) (q : (ecL K c).all id = true) : EC K mg c (He.ga K c) (He.ma K (He.ga K c) "__init__") := by
  have a : ∀ b ∈ ecL K c, b = true := fun b hb => List.all_eq_true.mp q b hb
  unfold ecL at a
  simp only [List.mem_cons, List.not_mem_nil, or_false, forall_eq_or_imp, forall_eq] at a
  obtain ⟨a1, a2, a3, a4, a5, a6, a7, a8, a9, a10, a11, a12, a13, a14⟩ := a
  have xf := xfB_ok a9
  exact ⟨PySem.W.mg_of X G (He.eqO_ok a14), ⟨oexB_ok a1, He.eqO_ok a2, of_decide_eq_true a3, of_decide_eq_true a4, a5⟩, He.eqO_ok a6, of_decide_eq_true a7, He.eqO_ok a8, xf, ⟨xf.ga, xf.gg, xf.exC, xf.hdC, He.eqO_ok a10, He.eqO_ok a11, of_decide_eq_true a12, of_decide_eq_true a13⟩⟩
/-- a def read off a class -/
structure CF (K : Frag) (C : Addr) (m : Str) (f : Addr) : Prop where
  ga : specialIn K (.ref C) "__getattribute__" = some (some (.builtin "type.__getattribute__"))
  rd : PySem.W.readsIn K C (.type "type") = true
  at_ : PySem.W.findCls K (.ref C) (.type "type") m = some (.val (.ref f))
def cfB (K : Frag) (c m : Str) : Bool := He.eqO (specialIn K (.ref (He.ga K c)) "__getattribute__") (some (some (.builtin "type.__getattribute__"))) && (PySem.W.readsIn K (He.ga K c) (.type "type") && (match PySem.W.findCls K (.ref (He.ga K c)) (.type "type") m with
  | some (.val v) => decide (v = .ref (He.ma K (He.ga K c) m))
  | _ => false))
theorem cfB_ok {K : Frag} {c m : Str} (h : cfB K c m = true) : CF K (He.ga K c) m (He.ma K (He.ga K c) m) := by
  obtain ⟨h1, h⟩ := Bool.and_eq_true_iff.mp h
  obtain ⟨h2, h3⟩ := Bool.and_eq_true_iff.mp h
  refine ⟨He.eqO_ok h1, h2, ?_⟩
  split at h3
  · rename_i v e
    rw [e, of_decide_eq_true h3]
  · cases h3
section
variable {X : Cx} {CX : CXT} {k : Nat} {C f : Addr} {fd : FuncData} {ps : List Str} {sp : Sp} {dvs : List V} {ds : List Value} {E : XK} {x m : Str} {p pos pos2 apos : Pos} {e o : Expr} {es : List Expr} {t : TA} {pl : Sem Bool}
/-- C.m(e, ..), C a class, m its def -/
theorem pe_clsfun (hg : Gl X x) (hm : X.mg x = some (.ref C)) (cf : CF X.K C m f) (kp : keepIn X.K (.ref f) = true) (F : FnOk X.prog X.w X.K X.mg X.base CX k f fd ps sp) (hr : Room k X.A) (hb : Binds X.K fd ps ds) (hd : Vals dvs ds) (hx : Passes CX X E) (ha : PA X (e :: es) t)
    (hdb : (x == ("__debug__" : Str)) = false := by decide) (hst : starEach (e :: es) X.env = (false, eval e X.env) :: starEach es X.env := by rfl) (hpl : (backTo pos (starEach es X.env)).any (·.1) = false := by rfl)
    (ht : eval (.Call (.Attribute (.Name x p) m apos) (e :: es) [] pos) X.env = (do
      let ov ← eval (.Name x p) X.env
      standAt apos.atName
      let (f, first) ← holding [ov] (getMethod ov m pl)
      callWith pos f first (backTo pos (starEach (e :: es) X.env)) (backToKw pos (keywordEach [] X.env))) := by rfl) :
    PE X (.Call (.Attribute (.Name x p) m apos) (e :: es) [] pos) (tCall sp dvs E t) := by
  refine ⟨fun pins s σ H Q I h => PySem.W.methodCall_KW (pl := pl) (ld_glob I hg hm ?_ hdb) ht⟩
  refine PySem.W.method_cls I.kIn cf.ga (PySem.W.cls_value I.kIn cf.rd cf.at_ (handed_of (v := .ref f) rfl) ?_)
  refine PySem.W.callWith_K (first := []) (h₀ := X.base) I.ok.mod.kin kp (thn (ha.run pos pins _ σ H _ (I.tok _) h) fun us s2 ⟨vs, H2, I2, r, q2⟩ => ⟨I2.kIn, run_fn F hr hb hd hx I2 r q2⟩) hst hpl
end
end DL
namespace DL
open PySem PySem.Spec PySem.Calls PyProof.Rows L2
open PySem.W (Frag InstAt Looks KitX findIn subIn hasDictIn typeIn specialIn takesIn mroIn keepIn findObj)

/-! ### making an exception of ours -/
def spW (K : Frag) (a C : Addr) (w : Str) (H : Hp) (Q : VK) : Prop := OexC K C ∧ findIn K (.ref C) "word" = some none ∧ H a = some (exo a C none) ∧ ∀ dx, H dx = none → dx ≠ a → Q .non (upd (upd H dx (exd dx [("word", .str w)])) a (exo a C (some dx)))
def spR (K : Frag) : Sp := fun vs H Q _ => ∃ a C w, vs = [.ref a, .str w] ∧ spW K a C w H Q
def spC (K : Frag) (w : Str) : Sp := fun vs H Q _ => ∃ a C, vs = [.ref a] ∧ spW K a C w H Q
section
variable {P : Program} {w : World} {K : Frag} {mg : Str → Option Value} {base : Heap} {CX : CXT} {nm qual z : Str} {params : Arguments} {scope : Scope} {f fR : Addr} {fd fdR : FuncData} {q1 q2 q3 q4 q5 q6 : Pos} {CR : Addr} {j : Option Str}
theorem okR (F : FunD K nm qual params [.Assign [.Attribute (.Name "self" q1) "word" q2] (.Name "word" q3) q4] scope [] [] f fd) (S : FnScope ["self", "word"] ["self", "word"] scope) (v0 : Vis scope "self") (v1 : Vis scope "word") : FnOk P w K mg base CX 1 f fd ["self", "word"] (spR K) := by
  refine F.ok S (fun vs H Q E ⟨a, C, w, e, _⟩ => by rw [e]; rfl) (fun cdv A outer s H vs Q E hr ⟨a, C, z, e, T, no, ha, h⟩ => ⟨_, pss_one (ps_ost (pv 0 rfl v0) (pv 1 rfl v1)), ?_⟩)
  subst e
  exact ⟨_, rfl, _, rfl, a, C, rfl, T, no, .inl ⟨ha, fun dx h1 h2 => h dx h1 h2⟩⟩
theorem okC {body : List Stmt} (F : FunD K nm qual params body scope [] [] f fd) (S : FnScope ["self"] ["self"] scope)
    (hb : ∀ (cdv : Value) (A : Around) (outer : List Env) (s : Shared) (H : Hp) (E : XK), Room 1 (A.deeper (envOfC qual scope s.heap.objs.size f cdv)) → PSs (cxOf (L2.CX P w) P w K mg base ["self"] qual scope f cdv A outer s H E) body (tDrop (tCall (spR K) [] E0 (tCons (tVar 0) (tCons (tC (.str z)) tNil))))) :
    FnOk P w K mg base (L2.CX P w) 2 f fd ["self"] (spC K z) := by
  refine F.ok S (fun vs H Q E ⟨a, C, e, _⟩ => by rw [e]; rfl) (fun cdv A outer s H vs Q E hr ⟨a, C, e, T, no, ha, h⟩ => ⟨_, hb cdv A outer s H E hr, ?_⟩)
  subst e
  exact ⟨_, rfl, a, C, z, rfl, T, no, ha, h⟩
end
/-- C(), C's own __init__ a def of self alone -/
theorem exo_same {H : Hp} {a d C : Addr} {fs : List (Str × V)} (ha : H a = none) (hd : H d = none) (ne : d ≠ a) : Same H (upd (del (upd (upd (upd H a (exo a C none)) d (exd d fs)) a (exo a C (some d))) a) d (.xd fs)) := fun b u h => by
  have n1 : b ≠ a := ne_of_none h ha
  have n2 : b ≠ d := ne_of_none h hd
  rw [upd_ne n2, del_ne n1, upd_ne n1, upd_ne n2, upd_ne n1]; exact h
section
variable {X : Cx} {k : Nat} {C fI : Addr} {fd : FuncData} {x w : Str} {p pos pos2 : Pos} {Wx : WX}
theorem pmk0 (T : OexC X.K C) (no : findIn X.K (.ref C) "word" = some none) (iC : findIn X.K (.ref C) "__init__" = some (some (.ref fI))) (tI : typeIn X.K (.ref fI) = some (.type "function")) (Fn : FnOk X.prog X.w X.K X.mg X.base (L2.CX X.prog X.w) k fI fd ["self"] (spC X.K w)) (hr : Room (k + 1) X.A)
    (hb : Binds X.K fd ["self"] []) (hg : Gl X x) (hm : X.mg x = some (.ref C)) (hdb : (x == ("__debug__" : Str)) = false := by decide) :
    PMk X (.Call (.Name x p) [] [] pos) (fun σ H Q => ∀ a d, H a = none → H d = none → d ≠ a → Q (.ref C) (some d) (upd (del (upd (upd (upd H a (exo a C none)) d (exd d [("word", .str w)])) a (exo a C (some d))) a) d (.xd [("word", .str w)]))) := by
  intro pins s σ H Q I h
  obtain ⟨nm, q, N, bs, bm, sn, sub, ab, col, dd, k0, k1, k2, k3, k5, hC, hbm⟩ := T.cls
  refine wpAny_Call_Name_kw (ld_glob I hg hm ?_ hdb)
  refine PySem.W.callWith_K0 I.kIn T.kC ?_
  show wpAny _ _ (call (.ref C) []) _ _ _
  obtain ⟨hp, g, dr, tk, os⟩ := s
  have h1 : hp.objs.size ≤ hp.objs.size + 1 := Nat.le_succ _
  have hn : H (hp.objs.size + 1) = none := I.hok.fresh h1
  have old : ∀ b o, hp.get? b = some o → ((hp.push (PySem.W.kdv_tup [])).push (PySem.HandSPX.excO C hp.objs.size)).get? b = some o := fun b o e => Heap.get?_push_of_some _ (Heap.get?_push_of_some _ e)
  have new : ((hp.push (PySem.W.kdv_tup [])).push (PySem.HandSPX.excO C hp.objs.size)).get? (hp.objs.size + 1) = some (PySem.HandSPX.excO C hp.objs.size) := by heap_get
  have J : Inv X pins σ (upd H (hp.objs.size + 1) (exo (hp.objs.size + 1) C none)) ⟨(hp.push (PySem.W.kdv_tup [])).push (PySem.HandSPX.excO C hp.objs.size), g, dr, tk, os⟩ :=
    I.laid (t' := tk) (a := hp.objs.size + 1) (o := exo (hp.objs.size + 1) C none) (h' := (hp.push (PySem.W.kdv_tup [])).push (PySem.HandSPX.excO C hp.objs.size)) old h1 (exo_ok new)
  have want : spC X.K w [V.ref (hp.objs.size + 1)] (upd H (hp.objs.size + 1) (exo (hp.objs.size + 1) C none)) (fun v H2 => v = .non ∧ ∃ d, H2 = upd (upd (upd H (hp.objs.size + 1) (exo (hp.objs.size + 1) C none)) d (exd d [("word", .str w)])) (hp.objs.size + 1) (exo (hp.objs.size + 1) C (some d)) ∧ H d = none ∧ d ≠ hp.objs.size + 1) (fun _ _ _ => False) :=
    ⟨_, C, rfl, T, no, upd_same, fun dx n1 n2 => ⟨rfl, dx, rfl, by rwa [upd_ne n2] at n1, n2⟩⟩
  refine wpAny_call (PySem.HandSPX.call_own F.excBase_ValueError (fun Y => PySem.HandSPX.refsVE_contains Y bm hbm) (I.kIn _ _ hC) (PySem.W.looks_findIn I.kIn iC) (fun self => PySem.W.bind_fn I.kIn self tI) (by show 0 ≤ sizeLine; decide)
    (codeAny_mono (Fn.run _ X.stack _ _ ⟨[Value.ref (hp.objs.size + 1)], []⟩ [Value.ref (hp.objs.size + 1)] _ _ (fun _ _ _ => False) (hr.make C [] []) (J.env0.make C [] []) (hb _ [Value.ref (hp.objs.size + 1)] J.kIn rfl) (show Vals [V.ref (hp.objs.size + 1)] _ from .cons rfl .nil) want) fun r s' hq => ?_))
  cases r with
  | error er => exact passL pins σ _ _ er s' J hq
  | ok fl => cases fl with
    | ret u =>
      obtain ⟨v, H2, os2, bare2, un2, hok2, rv, ev, d, e2, nd, ne⟩ := hq
      subst ev e2
      obtain ⟨h2, g2, d2, t2, os'⟩ := s'
      refine ⟨rv, mk_end (raises_own T.exC T.tyC) I h1 old un2 hok2 os2 bare2 (d := d) (fs := [("word", .str w)]) upd_same ?_ nd (h _ d hn nd ne)⟩
      rw [upd_ne ne, upd_same]
    | next => exact False.elim hq
    | brk => exact False.elim hq
    | cont => exact False.elim hq
/-- raise C() -/
theorem s_raise0 (hc : X.calm = true) (tk : Takes X Wx) (e : EC X.K X.mg x C fI) (Fn : FnOk X.prog X.w X.K X.mg X.base (L2.CX X.prog X.w) k fI fd ["self"] (spC X.K w)) (hr : Room (k + 1) X.A) (hb : Binds X.K fd ["self"] []) (hg : Gl X x) (hdb : (x == ("__debug__" : Str)) = false := by decide) :
    DS X Wx (.Raise (some (.Call (.Name x p) [] [] pos)) none pos2) (fun _ _ ω => .er ⟨x, w⟩ ω) :=
  ⟨PS.weak (ps_raise hc tk (pmk0 e.ox e.no e.iC e.tI Fn hr hb hg e.mg hdb)) fun G σ H ⟨F, ρ, ω, L, R, h⟩ a d ha hd ne =>
    h _ _ ρ σ _ L (R.same (exo_same ha hd ne)) ⟨C, d, e.mg, rfl, rfl, upd_same⟩⟩
end
end DL
namespace DL
open PySem PySem.Spec PySem.Calls PyProof.Rows L2
open PySem.W (Frag InstAt Looks KitX findIn subIn hasDictIn typeIn specialIn takesIn mroIn keepIn findObj)

/-! ### isinstance(e, T), T built in -/
def isiB (T n : String) : Bool := n == T || (T == "int" && n == "bool")
@[simp] def gIs2 (T : String) (x : D) : Res D := match D.tyN x with
  | some n => .ok (.bl (isiB T n))
  | none => .stuck
section
variable {X : Cx} {Wx : WX} {pos p pt : Pos} {a : Expr} {Ba : List Nat} {ma : M} {T : String} {x : Str}
theorem tyN_ok {W : Wd} {H : Hp} {S : Addr → Prop} {ob : Nat → Option Addr} {n : String} : ∀ {d : D} {v : V}, D.tyN d = some n → RepU W H S ob d v → TyX W.K H v (.type n)
  | .non, v, e, h => by cases e; rw [show v = .non from h]; exact .base .non
  | .bl b, v, e, h => by cases e; rw [show v = .bl b from h]; exact .base (.bl _)
  | .int b, v, e, h => by cases e; rw [show v = .int b from h]; exact .base (.int _)
  | .str b, v, e, h => by cases e; rw [show v = .str b from h]; exact .base (.str _)
  | .lst b, v, e, ⟨a, vs, e1, h, _⟩ => by cases e; rw [e1]; exact .base (.lst h)
  | .tup b, v, e, ⟨a, vs, e1, h, _⟩ => by cases e; rw [e1]; exact .base (.tup h)
  | .ctup _, _, e, _ => nomatch e
  | .dK _, _, e, _ => nomatch e
  | .dT _, _, e, _ => nomatch e
  | .ins _ _, _, e, _ => nomatch e
  | .obj _, _, e, _ => nomatch e
theorem tyN_mem : ∀ {d : D} {n : String}, D.tyN d = some n → n ∈ ["NoneType", "bool", "int", "str", "list", "tuple"]
  | .non, _, e | .bl b, _, e | .int b, _, e | .str b, _, e | .lst b, _, e | .tup b, _, e => by cases e; decide
  | .ctup _, _, e => nomatch e
  | .dK _, _, e => nomatch e
  | .dT _, _, e => nomatch e
  | .ins _ _, _, e => nomatch e
  | .obj _, _, e => nomatch e
theorem d_isi (T : String) (hg : Gl X "isinstance") (hm : X.mg "isinstance" = none) (hgt : Gl X x) (hmt : X.mg x = none) (ha : DU X Wx Ba a ma) (hv : bootBuiltins x = some (.type T) := by decide +kernel) (hk : ∀ n ∈ ["NoneType", "bool", "int", "str", "list", "tuple"], kitB n T = some (isiB T n) := by decide +kernel)
    (hn : x ≠ "__name__" := by decide) (hdb : (x == ("__debug__" : Str)) = false := by decide)
    (he : starEach [a, .Name x pt] X.env = (false, eval a X.env) :: starEach [.Name x pt] X.env := by rfl) (he2 : starEach [.Name x pt] X.env = (false, eval (.Name x pt) X.env) :: starEach [] X.env := by rfl) (hpl : (backTo pos (starEach [.Name x pt] X.env)).any (·.1) = false := by rfl) :
    DP X Wx Ba (.Call (.Name "isinstance" p) [a, .Name x pt] [] pos) (m1 ma (gIs2 T)) :=
  ⟨PE.weak (pe_callB call_isi hg hm (by decide +kernel) (pa_cons ha.pe (pa_cons (pe_bltn (v := .ty T) hgt hmt hv rfl hn hdb) pa_nil he2) he) (by decide) (by decide) he hpl) fun σ H Q ⟨F, ρ, ω, L, R, h⟩ => part1 (k := gIs2 T) subid R h fun v H1 d s R1 q l => by
    unfold gIs2 at l
    cases e : D.tyN d with
    | none => rw [e] at l; exact l.elim
    | some n =>
      rw [e] at l
      exact ⟨v, .ty T, .type n, .type T, isiB T n, rfl, .ty T, tyN_ok e q, kit_ty (hk n (tyN_mem e)), l.ret rfl⟩⟩
end

/-! ### what an except suite says of its exception -/
theorem Exc.same {W : Wd} {H H' : Hp} {e : Er} {cls : Value} {d : Option Addr} (x : Exc W H e cls d) (s : Same H H') : Exc W H' e cls d := by
  obtain ⟨C, d, e1, e2, e3, e4⟩ := x.at_
  exact ⟨C, d, e1, e2, e3, s _ _ e4⟩
structure DE (X : Cx) (i : Nat) (e : Expr) (g : Er → Option D) : Prop where
  ex : ∃ te : Addr → Value → Option Addr → TE, (∀ a oe cls d pn, Zc cls d oe → (∃ vs, oe.data = .fields vs) → PE (X.suite a ((a, oe) :: pn)) e (te a cls d)) ∧
    ∀ a cls d er σ H Q dd, g er = some dd → σ[i]? = some (some (.ref a)) → Exc (wd X) H er cls d → (∀ v H', Same H H' → (∀ S ob, Rep (wd X) H' S ob dd v) → Q v H') → te a cls d σ H Q
structure DEs (X : Cx) (i : Nat) (es : List Expr) (g : Er → Option (List D)) : Prop where
  ex : ∃ te : Addr → Value → Option Addr → TA, (∀ a oe cls d pn, Zc cls d oe → (∃ vs, oe.data = .fields vs) → PA (X.suite a ((a, oe) :: pn)) es (te a cls d)) ∧
    ∀ a cls d er σ H Q dd, g er = some dd → σ[i]? = some (some (.ref a)) → Exc (wd X) H er cls d → (∀ v H', Same H H' → (∀ S ob, Reps (wd X) H' S ob dd v) → Q v H') → te a cls d σ H Q
section
variable {X : Cx} {Wx : WX} {i : Nat} {x y : Str} {pos p pt np pos' rp : Pos} {e : Expr} {es : List Expr} {g : Er → Option D} {gs : Er → Option (List D)}
theorem e_const {d : D} {v : V} (h : ∀ a oe pn, PE (X.suite a ((a, oe) :: pn)) e (tC v)) (r : ∀ H S ob, Rep (wd X) H S ob d v) : DE X i e (fun _ => some d) :=
  ⟨fun _ _ _ => tC v, fun a oe cls d' pn _ _ => h a oe pn, fun a cls d' er σ H Q dd eg _ _ h => by cases eg; exact h v H (Same.refl H) (fun S ob => r H S ob)⟩
theorem e_bl {b j} : DE X i (.Constant (.bool b) j pos) (fun _ => some (.bl b)) := e_const (fun _ _ _ => pe_bl) fun _ _ _ => rfl
theorem e_str {b j} : DE X i (.Constant (.str b) j pos) (fun _ => some (.str b)) := e_const (fun _ _ _ => pe_str) fun _ _ _ => rfl
theorem e_word (cs : List Str) (hN : X.N[i]? = some x) (hv : Vis X.env.scope x) (T : ∀ c ∈ cs, ∀ C, X.mg c = some (.ref C) → XfC X.K C ∧ findIn X.K (.ref C) "word" = some none) (hd : (x == ("__debug__" : Str)) = false := by decide) (hcd : (x == ("__classdict__" : Str)) = false := by decide)
    (hb : attributeBase (.Name x p) "word" X.env (eval (.Name x p) X.env) = eval (.Name x p) X.env := by rfl) : DE X i (.Attribute (.Name x p) "word" pos) (fun er => if er.cls ∈ cs then some (.str er.word) else none) := by
  refine ⟨fun a cls d σ H Q => ∃ C, (XfC X.K C ∧ findIn X.K (.ref C) "word" = some none) ∧ tXf a cls d C "word" (tVar i) σ H Q, fun a oe cls d pn hz hf => ⟨fun pins s σ H Q I ⟨C, t, q⟩ => (pe_xf t.1 t.2 hz hf (pe_var hN hv hd hcd) hb).run pins s σ H Q I q⟩, fun a cls d er σ H Q dd eg hs x h => ?_⟩
  split at eg
  · rename_i hm
    cases eg
    obtain ⟨C, d, e1, e2, e3, e4⟩ := x.at_
    exact ⟨C, T _ hm C e1, _, hs, rfl, e2, d, _, _, e3, e4, rfl, h _ H (Same.refl H) fun _ _ => rfl⟩
  · cases eg
theorem call_isX {a : Addr} {oe : Obj} {cls : Value} {d : Option Addr} {pn : List (Addr × Obj)} (hz : Zc cls d oe) (hf : ∃ vs, oe.data = .fields vs) : CallR (X.suite a ((a, oe) :: pn)) (.builtin "isinstance") (fun xs H Q => ∃ (D dd : Addr) (fs : List (Str × V)) (c : V) (cv : Value) (b : Bool), cls = .ref D ∧ d = some dd ∧ H dd = some (.xd fs) ∧ ExcC X.K D ∧ xs = [.ref a, c] ∧ (∀ u, RelV c u → u = cv) ∧ PySem.W.kitOne X.K (.ref D) cv = some b ∧ Q (.bl b) H) := by
  intro pins s σ H xs us Q I r h
  obtain ⟨D, dd, fs, c, cv, b, rfl, rfl, ed, xc, rfl, hcv, k, q⟩ := h
  cases r with
  | cons rx rr => cases rr with
    | cons rt rn =>
      cases rn
      cases rx
      have ec := hcv _ rt
      subst ec
      obtain ⟨here, _⟩ := I.pin (a, oe) (List.mem_append_left _ List.mem_cons_self)
      obtain ⟨vs, hv⟩ := hf
      have od : ObjOk X.prog X.w H s.heap dd (.xd fs) := I.hok dd _ ed
      obtain ⟨mA, hns, _⟩ := od
      obtain ⟨o1, ho, _⟩ := lookIn_ns hns
      have J : InstAt s.heap a oe D (some o1) := ⟨here, hz.1, by unfold PySem.W.notCls; rw [hv] <;> rfl, by rw [hz.2]; exact ho⟩
      exact PySem.W.kia_one (exd_kit xc) I.kIn J k (fun z => nomatch z) fun tk => ⟨.bl b, H, I.kept (t' := tk) fun _ _ z => z, rfl, q⟩
theorem e_isi (cs : List Str) (sb : Str → Bool) {v : V} {cv : Value} (hg : Gl X "isinstance") (hm : X.mg "isinstance" = none) (hN : X.N[i]? = some x) (hv : Vis X.env.scope x) (hc : ∀ a oe pn, PE (X.suite a ((a, oe) :: pn)) e (tC v)) (hcv : ∀ u, RelV v u → u = cv)
    (T : ∀ c ∈ cs, ∀ C, X.mg c = some (.ref C) → ExcC X.K C ∧ PySem.W.kitOne X.K (.ref C) cv = some (sb c)) (hd : (x == ("__debug__" : Str)) = false := by decide) (hcd : (x == ("__classdict__" : Str)) = false := by decide)
    (he : starEach [.Name x pt, e] X.env = (false, eval (.Name x pt) X.env) :: starEach [e] X.env := by rfl) (he2 : starEach [e] X.env = (false, eval e X.env) :: starEach [] X.env := by rfl) (hpl : (backTo pos (starEach [e] X.env)).any (·.1) = false := by rfl) :
    DE X i (.Call (.Name "isinstance" p) [.Name x pt, e] [] pos) (fun er => if er.cls ∈ cs then some (.bl (sb er.cls)) else none) := by
  refine ⟨_, fun a oe cls d pn hz hf => pe_callB (X := X.suite a ((a, oe) :: pn)) (call_isX hz hf) hg hm (by decide +kernel) (pa_cons (pe_var (X := X.suite a ((a, oe) :: pn)) hN hv hd hcd) (pa_cons (hc a oe pn) pa_nil he2) he) (by decide) (by decide) he hpl, fun a cls d er σ H Q dd eg hs xx h => ?_⟩
  split at eg
  · rename_i hmm
    cases eg
    obtain ⟨C, d, e1, e2, e3, e4⟩ := xx.at_
    obtain ⟨t1, t2⟩ := T _ hmm C e1
    exact ⟨_, hs, C, d, _, v, cv, _, e2, e3, e4, t1, rfl, hcv, t2, h _ H (Same.refl H) fun _ _ => rfl⟩
  · cases eg
theorem es_nil : DEs X i [] (fun _ => some []) := ⟨fun _ _ _ => tNil, fun a oe cls d pn _ _ => pa_nil, fun a cls d er σ H Q dd eg _ _ h => by cases eg; exact h [] H (Same.refl H) (fun _ _ => rfl)⟩
theorem es_cons (h : DE X i e g) (t : DEs X i es gs) (he : starEach (e :: es) X.env = (false, eval e X.env) :: starEach es X.env := by rfl) : DEs X i (e :: es) (fun er => (g er).bind fun d => (gs er).map fun ds => d :: ds) := by
  obtain ⟨te, h1, h2⟩ := h.ex
  obtain ⟨ta, t1, t2⟩ := t.ex
  refine ⟨fun a cls d => tCons (te a cls d) (ta a cls d), fun a oe cls d pn hz hf => pa_cons (h1 a oe cls d pn hz hf) (t1 a oe cls d pn hz hf) he, fun a cls d er σ H Q dd eg hs xx q => ?_⟩
  cases e1 : g er with
  | none => rw [e1] at eg; cases eg
  | some d1 =>
    rw [e1] at eg
    cases e2 : gs er with
    | none => rw [e2] at eg; cases eg
    | some d2 =>
      rw [e2] at eg
      cases eg
      refine h2 a cls d er σ H _ d1 e1 hs xx fun v H1 s1 r1 => ?_
      exact t2 a cls d er σ H1 _ d2 e2 hs (xx.same s1) fun vs H2 s2 r2 => q _ H2 (s1.trans s2) fun S ob => ⟨v, vs, rfl, Rep.same (r1 S ob) s2, r2 S ob⟩
theorem e_tup {k} (t : DEs X i es gs) : DE X i (.Tuple es k pos) (fun er => (gs er).bind fun ds => if ds.length ≤ 100 then some (.tup ds) else none) := by
  obtain ⟨ta, t1, t2⟩ := t.ex
  refine ⟨fun a cls d => tTup (ta a cls d), fun a oe cls d pn hz hf => pe_tup (t1 a oe cls d pn hz hf), fun a cls d er σ H Q dd eg hs xx q => ?_⟩
  cases e2 : gs er with
  | none => rw [e2] at eg; cases eg
  | some ds =>
    rw [e2] at eg
    replace eg : (if ds.length ≤ 100 then some (D.tup ds) else none) = some dd := eg
    split at eg
    · rename_i hl
      cases eg
      refine t2 a cls d er σ H _ ds e2 hs xx fun vs H2 s2 r2 => ⟨by rw [(r2 (fun _ => False) (fun _ => none)).len, sizeLine_eq]; omega, fun z hz => ?_⟩
      have sm := same_upd (o := .tup vs) hz
      exact q _ _ (s2.trans sm) fun S ob => ⟨z, vs, rfl, upd_same, Reps.same (r2 S ob) sm⟩
    · cases eg

/-! ### try: .. except C as n: return e -/
@[simp] def sTry (cs : List Str) (hit : Str → Bool) (mb : T) (g : Er → Option D) : T := fun n0 ρ ω => match mb n0 ρ ω with
  | .er e ω' => if e.cls ∈ cs then (if hit e.cls = true then (match g e with
    | some d => .rt d ω'
    | none => .stuck) else .er e ω') else .stuck
  | r => r
theorem s_try {c : Value} {n : Str} {body : List Stmt} {mb : T} (cs : List Str) (hit : Str → Bool) (hN : X.N.Nodup) (hi : X.N[i]? = some n) (hln : X.env.kindOf n = some .local) (hc : Names X x c) (tk : Takes X Wx) (T : ∀ k ∈ cs, ∀ C, X.mg k = some (.ref C) → PySem.W.exmOne X.K (.ref C) c = some (hit k))
    (hb : ∀ (W : WX) (pn : List (Addr × Obj)) (xe : Value → Shared → Prop), Takes (X.tr pn xe) W → PassesOwn (model X.prog X.w) X.A X.env xe → DSs (X.tr pn xe) W body mb) (he : DE X i e g) (hs : X.stack = X.env :: X.outer := by rfl) (hf : X.env.frame = some X.env.locals := by rfl) :
    DS X Wx (.Try body [.ExceptHandler (some (.Name x np)) (some n) [.Return (some e) rp] pos'] [] [] pos) (sTry cs hit mb g) := by
  obtain ⟨te, h1, h2⟩ := he.ex
  refine ⟨PS.weak (ps_try_as (tb := fun W => tS (wd X) W mb) (ts := fun a cls d D σ H => σ.length = X.N.length → tRet (te a cls d) D σ H) hs hf hN hi hln hc tk (fun W pn xe tk' hp => (hb W pn xe tk' hp).pss) fun a oe cls d pn hz hff => ⟨fun pins s σ H D I q => (pss_one (ps_ret (h1 a oe cls d pn hz hff))).run pins s σ H D I (q I.len)⟩) fun G σ H ⟨F, ρ, ω, L, R, h⟩ => ⟨F, ρ, ω, L, R, ?_⟩⟩
  unfold sTry at h
  cases zb : mb F.n0 ρ ω with
  | stuck => rw [zb] at h; exact h
  | nx ρ' ω' => rw [zb] at h; exact h
  | rt d ω' => rw [zb] at h; exact h
  | bk ρ' ω' => rw [zb] at h; exact h
  | ct ρ' ω' => rw [zb] at h; exact h
  | er er ω' =>
    rw [zb] at h
    intro cls dd ρ' σ' H' L' R' xx
    replace h : LeafS (wd X) Wx F G (if er.cls ∈ cs then (if hit er.cls = true then (match g er with
      | some d => .rt d ω'
      | none => .stuck) else .er er ω') else .stuck) := h
    split at h
    · rename_i hm
      obtain ⟨C, d, e1, e2, e3, e4⟩ := xx.at_
      refine ⟨hit er.cls, by rw [e2]; exact T _ hm C e1, fun hb a ha hlen => ?_, fun hb => ?_⟩
      · rw [if_pos hb] at h
        cases zg : g er with
        | none => rw [zg] at h; exact h.elim
        | some d2 =>
          rw [zg] at h
          refine h2 a cls dd er _ H' _ d2 zg ?_ xx fun v H2 s2 r => h v ρ' σ' H2 L' (R'.same s2) (r _ _)
          have hl : i < X.N.length := (List.getElem?_eq_some_iff.mp hi).1
          rw [List.getElem?_set_self (by rw [List.length_set] at hlen; omega)]
      · rw [if_neg (by rw [hb]; exact Bool.false_ne_true)] at h
        exact h cls dd ρ' σ' H' L' R' xx
    · exact h.elim
end
end DL
namespace DL
open PySem PySem.Spec PySem.Calls PyProof.Rows L2
open PySem.W (Frag findIn subIn typeIn keepIn)

/-! ### what is known of a def, of an exception's class -/
structure Fc (P : Program) (w : World) (K : Frag) (mg : Str → Option Value) (base : Heap) (k : Nat) (x : Str) (n : Nat) (g : Fu) : Prop where
  ex : ∃ f fd ps, mg x = some (.ref f) ∧ keepIn K (.ref f) = true ∧ Binds K fd ps [] ∧ ps.length = n ∧ FnOk P w K mg base (L2.CX P w) k f fd ps (spF ⟨K, mg⟩ n g)
structure Xc (P : Program) (w : World) (K : Frag) (mg : Str → Option Value) (base : Heap) (x z : Str) : Prop where
  ex : ∃ C fI fd, EC K mg x C fI ∧ Binds K fd ["self"] [] ∧ FnOk P w K mg base (L2.CX P w) 2 fI fd ["self"] (spC K z)
section
variable {X : Cx} {Wx : WX} {pos p pos2 : Pos} {e : Expr} {es : List Expr} {B : List Nat} {mr : MA} {x z : Str} {j k n : Nat} {g : Fu}
theorem d_callF (c : Fc X.prog X.w X.K X.mg X.base j x n g) (hr : Room k X.A) (tk : Takes X Wx) (ha : DA X Wx B (e :: es) mr) (hg : Gl X x := by rfl) (hj : j ≤ k := by decide) (hdb : (x == ("__debug__" : Str)) = false := by decide)
    (he : starEach (e :: es) X.env = (false, eval e X.env) :: starEach es X.env := by rfl) (hpl : (backTo pos (starEach es X.env)).any (·.1) = false := by rfl) : DP X Wx B (.Call (.Name x p) (e :: es) [] pos) (mCall n g mr) := by
  obtain ⟨f, fd, ps, h1, h2, h3, rfl, h5⟩ := c.ex
  exact d_call (h5.mono hj) hr hg h1 h2 h3 tk ha hdb he hpl
theorem s_raiseC (hc : X.calm = true) (tk : Takes X Wx) (c : Xc X.prog X.w X.K X.mg X.base x z) (hr : Room k X.A) (hg : Gl X x := by rfl) (hk : 3 ≤ k := by decide) (hdb : (x == ("__debug__" : Str)) = false := by decide) :
    DS X Wx (.Raise (some (.Call (.Name x p) [] [] pos)) none pos2) (fun _ _ ω => .er ⟨x, z⟩ ω) := by
  obtain ⟨C, fI, fd, h1, h2, h3⟩ := c.ex
  exact s_raise0 hc tk h1 h3 (hr.mono hk) h2 hg hdb
end
section
variable {P : Program} {w : World} {K : Frag} {mg : Str → Option Value} {base : Heap} {x z qual : Str} {params : Arguments} {body : List Stmt} {scope : Scope} {f : Addr} {fd : FuncData} {N ps : List Str} {k n : Nat} {g : T} {fu : Fu}
theorem fc_ok (F : FunD K x qual params body scope [] [] f fd) (S : FnScope N ps scope) (hm : mg x = some (.ref f)) (hb : Binds K fd ps []) (hn : ps.length = n)
    (hbody : ∀ (cdv : Value) (A : Around) (outer : List Env) (s : Shared) (H : Hp) (E : XK), Room k (A.deeper (envOfC qual scope s.heap.objs.size f cdv)) → DSs (cxOf (L2.CX P w) P w K mg base N qual scope f cdv A outer s H E) (fun cls d _ H => E cls d H) body g) :
    Fc P w K mg base (k + 1) x n (fuOf N.length g) := by
  subst hn
  exact ⟨f, fd, ps, hm, F.kp, hb, rfl, fn_ok F S hbody⟩
theorem fc_stuck (c : Fc P w K mg base k x n fu) {j : Nat} : Fc P w K mg base j x n (fun _ _ _ => .stuck) := by
  obtain ⟨f, fd, ps, h1, h2, h3, h4, h5⟩ := c.ex
  exact ⟨f, fd, ps, h1, h2, h3, h4, fun vs H Q E ⟨_, _, _, _, _, _, _, _, h⟩ => h.elim, fun A outer s H args us vs Q E _ _ _ _ ⟨_, _, _, _, _, _, _, _, h⟩ => h.elim⟩
end
/-! ### the law's own start -/
def spLaw (K : Frag) : Sp := fun vs H Q _ => ∃ (a : Addr) (ns : List Int), vs = [.ref a] ∧ ns.length ≤ 63 ∧ SqL K H a (ns.map V.int) ∧ ∀ H', Q (.bl true) H'
theorem cut63 {xs : List V} (h : xs.length ≤ 63) : cutV xs none (some 63) = xs := by
  unfold cutV
  rw [HT.sIx_none, show (some (63 : Int)) = some ((63 : Nat) : Int) from rfl, HT.sIx_nat, Nat.min_eq_right h, List.drop_zero, Nat.sub_zero, List.take_length]
section
variable {P : Program} {w : World} {K : Frag} {mg : Str → Option Value} {base : Heap} {x nm qual : Str} {params : Arguments} {scope : Scope} {f : Addr} {fd : FuncData} {N : List Str} {k n : Nat} {g : T} {p1 p2 p3 p4 p5 p6 : Pos} {j : Nat} {rest : List Stmt}
theorem law_first {X : Cx} {t : TS} (hN : X.N.Nodup) (hi : X.N[0]? = some x) (hx : Loc X.env.scope x) (hv : Vis X.env.scope x) (hr : PSs X rest t) (hd : (x == ("__debug__" : Str)) = false := by decide) (hcd : (x == ("__classdict__" : Str)) = false := by decide)
    (hf : X.fn x = true ∨ X.env.scope.names.lookup x = some .local := by first | exact .inl rfl | exact .inr rfl | assumption)
    (hs : swapsWith (.Subscript (.Name x p2) (.Slice none (some (.Constant (.int 63) j p3)) none p4) p5) (some (.Name x p1)) p6.line X.env = pure false := by rfl) :
    PSs X (.Assign [.Name x p1] (.Subscript (.Name x p2) (.Slice none (some (.Constant (.int 63) j p3)) none p4) p5) p6 :: rest)
      (fun G σ H => ∃ (a : Addr) (xs : List V), σ[0]? = some (some (.ref a)) ∧ xs.length ≤ 63 ∧ SqL X.K H a xs ∧ ∀ z, H z = none → t G (σ.set 0 (some (.ref z))) (upd H z (.lst xs))) :=
  PSs.weak (pss_cons (ps_set hN hi hx (pe_slice sl_list (pe_var (i := 0) hi hv hd hcd) po_none (po_some pe_int)) hs hf) hr) fun G σ H ⟨a, xs, h1, h2, h3, h4⟩ => ⟨_, h1, 63, rfl, a, xs, rfl, h3, fun z hz => by rw [cut63 h2]; exact h4 z hz⟩
/-- THE LAW'S DEF: behind its first row the script is a list of its own -/
theorem law_ok (F : FunD K nm qual params (.Assign [.Name x p1] (.Subscript (.Name x p2) (.Slice none (some (.Constant (.int 63) j p3)) none p4) p5) p6 :: rest) scope [] [] f fd) (S : FnScope (x :: N) [x] scope) (hx : Loc scope x) (hv : Vis scope x)
    (hbody : ∀ (cdv : Value) (A : Around) (outer : List Env) (s : Shared) (H : Hp) (E : XK), Room k (A.deeper (envOfC qual scope s.heap.objs.size f cdv)) →
      (swapsWith (.Subscript (.Name x p2) (.Slice none (some (.Constant (.int 63) j p3)) none p4) p5) (some (.Name x p1)) p6.line (envOfC qual scope s.heap.objs.size f cdv) = pure false) ∧ DSs (cxOf (L2.CX P w) P w K mg base (x :: N) qual scope f cdv A outer s H E) (fun cls d _ H => E cls d H) rest g)
    (hg : ∀ ns : List Int, ns.length ≤ 63 → ∃ ω, toRR (g 0 (.own (.lst (ns.map .int)) :: List.replicate N.length .no) []) = .ok (.bl true) ω) (hd : (x == ("__debug__" : Str)) = false := by decide) (hcd : (x == ("__classdict__" : Str)) = false := by decide) :
    FnOk P w K mg base (L2.CX P w) (k + 1) f fd [x] (spLaw K) := by
  refine F.ok S (fun vs H Q E ⟨a, ns, e, _⟩ => by rw [e]; rfl) (fun cdv A outer s H vs Q E hr ⟨a, ns, e, hl, hS, hQ⟩ => ⟨_, law_first (X := cxOf (L2.CX P w) P w K mg base (x :: N) qual scope f cdv A outer s H E) S.nd rfl hx hv (hbody cdv A outer s H E hr).2.pss hd hcd (.inl rfl) (hbody cdv A outer s H E hr).1, ?_⟩)
  subst e
  refine ⟨a, ns.map V.int, rfl, by rw [List.length_map]; exact hl, hS, fun z hz => ?_⟩
  -- nothing is anybody's yet
  have R0 : Rel (wd (cxOf (L2.CX P w) P w K mg base (x :: N) qual scope f cdv A outer s H E)) ⟨0, fun _ => none, H⟩ (.no :: List.replicate N.length .no) [] (fun _ => none) (L2.start (x :: N) [.ref a]) H :=
    ⟨fun p q a e => (nomatch e), fun p a e => (nomatch e), Aft.refl, fun a b e => (nomatch e), by simp [L2.start], fun i s e => by
      have : s = .no := by
        cases i with
        | zero => exact (Option.some.inj e).symm
        | succ i =>
          rw [List.getElem?_cons_succ, List.getElem?_replicate] at e
          split at e
          · exact (Option.some.inj e).symm
          · cases e
      rw [this]; trivial, fun n o e => (nomatch e), fun n _ => ⟨rfl, fun _ => rfl⟩⟩
  obtain ⟨L1, R1⟩ := R0.storeO (B := []) (i := 0) (d := .lst (ns.map .int)) (same_upd hz) (by simp) hz ⟨ns.map V.int, upd_same, Reps.ofInts ns⟩
  have fr : D.inFree (.lst (ns.map .int)) = true := by
    show D.frees (ns.map .int) = true
    clear hS hQ R1 hl
    induction ns with
    | nil => rfl
    | cons n ns ih => show (D.free (.int n) && D.frees (ns.map .int)) = true; rw [ih]; rfl
  unfold demO at R1
  rw [if_pos fr] at R1
  obtain ⟨ω, hg⟩ := hg ns hl
  refine ⟨_, _, _, _, R1, ?_⟩
  show LeafS _ _ _ _ (g 0 (.own (.lst (ns.map .int)) :: List.replicate N.length .no) [])
  cases zg : g 0 (.own (.lst (ns.map .int)) :: List.replicate N.length .no) [] with
  | rt d ω' =>
    rw [zg] at hg
    have e : d = .bl true := by
      have := hg
      injection this
    subst e
    intro v ρ' σ' H' L' R' r
    rw [show v = .bl true from r]
    exact hQ H'
  | nx ρ' ω' => rw [zg] at hg; cases hg
  | er e ω' => rw [zg] at hg; cases hg
  | bk ρ' ω' => rw [zg] at hg; cases hg
  | ct ρ' ω' => rw [zg] at hg; cases hg
  | stuck => rw [zg] at hg; cases hg
end
theorem no_exc {P : Program} {w : World} (H : Hp) (s : Shared) (e : Value) (s' : Shared) : L2.CX P w [] H s (fun _ _ _ => False) e s' → False := fun h => by
  obtain ⟨_, _, _, _, _, _, _, _, _, _, _, _, z⟩ := h
  exact z
end DL
namespace DL
open PySem PySem.Spec PySem.Calls PyProof.Rows L2

/-! ### x in range(n) -/
section
variable {X : Cx} {Wx : WX} {pos p p2 : Pos} {a b : Expr} {Ba Bb : List Nat} {ma mb : M}
theorem call_rng1 : CallR X (.type "range") (fun xs H Q => ∃ j : Int, xs = [.int j] ∧ ∀ z, H z = none → Q (.ref z) (upd H z (.rng 0 j))) := by
  intro pins s σ H xs us Q I r h
  obtain ⟨j, rfl, q⟩ := h
  cases r with
  | cons rj rn =>
    cases rn
    obtain ⟨u, rfl⟩ := rj
    refine call_range_1 ⟨.ref s.heap.objs.size, upd H s.heap.objs.size (.rng 0 j), I.laid (t' := _) (fun b o e => Heap.get?_push_of_some _ e) (Nat.le_refl _) ?_, rfl, q _ (I.hok.fresh (Nat.le_refl _))⟩
    exact ⟨_, _, _, Heap.get?_push_size _ rfl⟩
@[simp] def gInR (x y : D) : Res D := match x, y with
  | .int i, .int j => .ok (.bl (decide (0 ≤ i ∧ i < j)))
  | _, _ => .stuck
theorem d_inR (hg : Gl X "range") (hm : X.mg "range" = none) (ha : DU X Wx Ba a ma) (hb : DU X Wx Bb b mb) (he : starEach [b] X.env = (false, eval b X.env) :: starEach [] X.env := by rfl) (hpl : (backTo p2 (starEach [] X.env)).any (·.1) = false := by rfl) : DP X Wx (Ba ++ Bb) (.Compare a [.In] [.Call (.Name "range" p) [b] [] p2] pos) (m2 ma mb gInR) :=
  ⟨PE.weak (pe_cmpR op_in_rng ha.pe (pe_callTy call_rng1 hg hm (by decide +kernel) (pa_cons hb.pe pa_nil he) (by decide) (by decide) he hpl) (by rfl)) fun σ H Q ⟨F, ρ, ω, L, R, h⟩ => by
    refine part1 (B := Ba ++ Bb) (k := fun x => (mb ρ ω).bind fun y => gInR x y) subl R h fun v H1 x s1 R1 r1 l1 => ?_
    refine part1 (B := Ba ++ Bb) (k := fun y => gInR x y) subr R1 l1 fun w H2 y s2 R2 r2 l2 => ?_
    unfold gInR at l2
    split at l2
    · rename_i i j
      refine ⟨j, by rw [show w = .int j from r2], fun z hz => ⟨i, z, 0, j, show v = .int i from r1, rfl, upd_same, l2.ret' (same_upd hz) rfl⟩⟩
    · exact l2.elim⟩
end
theorem fc_stuck0 {P : Program} {w : World} {K : PySem.W.Frag} {mg : Str → Option Value} {base : Heap} {x qual : Str} {params : Arguments} {body : List Stmt} {scope : Scope} {f : Addr} {fd : FuncData} {ps : List Str} {k n : Nat} (F : FunD K x qual params body scope [] [] f fd) (hm : mg x = some (.ref f)) (hb : Binds K fd ps []) (hn : ps.length = n) :
    Fc P w K mg base k x n (fun _ _ _ => .stuck) := ⟨f, fd, ps, hm, F.kp, hb, hn, fun vs H Q E ⟨_, _, _, _, _, _, _, _, h⟩ => h.elim, fun A outer s H args us vs Q E _ _ _ _ ⟨_, _, _, _, _, _, _, _, h⟩ => h.elim⟩
theorem all_at {l : List Bool} {b : Bool} (h : l.all id = true) (i : Nat) (hi : l[i]? = some b) : b = true := List.all_eq_true.mp h b (List.mem_of_getElem? hi)
/-! ### what a body's exceptions are wished -/
theorem tkB {P : Program} {w : World} {K : PySem.W.Frag} {mg : Str → Option Value} {base : Heap} {N : List Str} {qual : Str} {scope : Scope} {f : Addr} {cdv : Value} {A : Around} {outer : List Env} {s : Shared} {H : Hp} {E : XK} :
    Takes (cxOf (L2.CX P w) P w K mg base N qual scope f cdv A outer s H E) (fun cls d _ H => E cls d H) := takes_of rfl rfl rfl rfl
theorem hpB {P : Program} {w : World} {K : PySem.W.Frag} {mg : Str → Option Value} {base : Heap} {N : List Str} {qual : Str} {scope : Scope} {f : Addr} {cdv : Value} {A : Around} {outer : List Env} {s : Shared} {H : Hp} {E : XK} :
    PassesOwn (model (cxOf (L2.CX P w) P w K mg base N qual scope f cdv A outer s H E).prog (cxOf (L2.CX P w) P w K mg base N qual scope f cdv A outer s H E).w) (cxOf (L2.CX P w) P w K mg base N qual scope f cdv A outer s H E).A (cxOf (L2.CX P w) P w K mg base N qual scope f cdv A outer s H E).env (cxOf (L2.CX P w) P w K mg base N qual scope f cdv A outer s H E).xe := passes_of rfl
/-! ### what is looked at behind the top: names' facts, defs, tables, more, and the interpreter's statics -/
abbrev AlZ : Type := He.AlT × Bool
def fragZ (n : Nat) (g : Addr → Option Obj) : PySem.W.Frag := He.frG g (He.asD g n ++ [cStatics])
def obsZ (n : Nat) (fa : List He.Fa) (fn : List He.DefD) (ts : List He.Tab) (ex : PySem.W.Frag → Bool) (g : Addr → Option Obj) : AlZ := (He.obsT fa fn ts (fragZ n g), ex (fragZ n g))
structure SaysZ (fa : List He.Fa) (fn : List He.DefD) (ts : List He.Tab) (ex : PySem.W.Frag → Bool) (w : World) (K : PySem.W.Frag) : Prop where
  t : He.SaysT fa fn ts w K
  more : ex K = true
def hookZ (n : Nat) (fa : List He.Fa) (fn : List He.DefD) (ts : List He.Tab) (ex : PySem.W.Frag → Bool) : PySem.W.Hook where
  α := AlZ
  obs := fun s => obsZ n fa fn ts ex s.heap.get?
  val := fun w => (He.valT fn ts w, true)
  says := fun w h => ∃ K : PySem.W.Frag, K.In h ∧ SaysZ fa fn ts ex w K
  of := fun _ _ e => ⟨_, He.frG_in, ⟨congrArg (fun z : AlZ => z.1) e, congrArg (fun z : AlZ => z.2) e⟩⟩
  keeps := fun _ _ _ ⟨K, hK, c⟩ k => ⟨K, PySem.W.Frag.In.keeps hK k, ⟨c.t, c.more⟩⟩
theorem obsZ_eq {n : Nat} {fa : List He.Fa} {fn : List He.DefD} {ts : List He.Tab} {ex : PySem.W.Frag → Bool} {g : Addr → Option Obj} {s : Shared} (h : ∀ a, g a = s.heap.get? a) : obsZ n fa fn ts ex g = (hookZ n fa fn ts ex).obs s := by
  rw [show g = s.heap.get? from funext h] <;> rfl
/-- the law's def lets nothing out -/
theorem law_calm {P : Program} {w : World} {K : PySem.W.Frag} {mg : Str → Option Value} {base : Heap} {k : Nat} {f : Addr} {fd : FuncData} {ps : List Str} (F : FnOk P w K mg base (L2.CX P w) k f fd ps (spLaw K)) : FnOk P w K mg base CX0 k f fd ps (spLaw K) :=
  ⟨F.len, fun A outer s H args us vs Q E hr he hb hv hs => codeAny_mono (F.run A outer s H args us vs Q E0 hr he hb hv hs) fun r s' h => by
    cases r with
    | ok fl => cases fl <;> exact h
    | error e =>
      obtain ⟨_, _, _, _, _, _, _, _, _, _, _, _, z⟩ := (show L2.CX P w outer H s E0 e s' from h)
      exact z⟩
end DL
namespace DL
open PySem PySem.Spec PyProof.Rows L2
/-! ### the mirrors, reckoned -/
@[simp] theorem Res.bind_ok {α β : Type} (a : α) (f : α → Res β) : (Res.ok a).bind f = f a := rfl
@[simp] theorem Res.bind_stuck {α β : Type} (f : α → Res β) : (Res.stuck : Res α).bind f = .stuck := rfl
@[simp] theorem Res.bind_err {α β : Type} (e : Er) (f : α → Res β) : (Res.err e : Res α).bind f = .err e := rfl
@[simp] theorem gAdd_int (i j : Int) : gAdd (.int i) (.int j) = .ok (.int (i + j)) := rfl
@[simp] theorem gMul_r (i j : Int) (h : -18446744073709551616 < j ∧ j < 18446744073709551616) : gMul (.int i) (.int j) = .ok (.int (i * j)) := @if_pos _ (Classical.propDecidable _) (.inr h) _ _ _
@[simp] theorem gMul_l (i j : Int) (h : -18446744073709551616 < i ∧ i < 18446744073709551616) : gMul (.int i) (.int j) = .ok (.int (i * j)) := @if_pos _ (Classical.propDecidable _) (.inl h) _ _ _
@[simp] theorem gDiv_ok (i j : Int) (h : 0 < j ∧ j < 1073741824) : gDiv (.int i) (.int j) = .ok (.int (i / j)) := @if_pos _ (Classical.propDecidable _) h _ _ _
@[simp] theorem gPow_ok (i j : Int) (h : 0 ≤ j ∧ j ≤ 1000000 ∧ i.natAbs < 18446744073709551616) : gPow (.int i) (.int j) = .ok (.int (i ^ j.toNat)) := @if_pos _ (Classical.propDecidable _) h _ _ _
theorem sq_nx {m1 m2 : T} {n0 : Nat} {ρ ρ' : Env'} {ω ω' : Store} (h : m1 n0 ρ ω = .nx ρ' ω') : sq m1 m2 n0 ρ ω = m2 n0 ρ' ω' := by unfold sq; rw [h]
theorem sq_rt {m1 m2 : T} {n0 : Nat} {ρ : Env'} {d : D} {ω ω' : Store} (h : m1 n0 ρ ω = .rt d ω') : sq m1 m2 n0 ρ ω = .rt d ω' := by unfold sq; rw [h]
theorem sq_er {m1 m2 : T} {n0 : Nat} {ρ : Env'} {d : Er} {ω ω' : Store} (h : m1 n0 ρ ω = .er d ω') : sq m1 m2 n0 ρ ω = .er d ω' := by unfold sq; rw [h]
@[simp] theorem frees_int (ns : List Int) : D.frees (ns.map .int) = true := by
  induction ns with
  | nil => rfl
  | cons n ns ih => simp [ih]
@[simp] theorem gEq_int (i j : Int) : gEq (.int i) (.int j) = .ok (.bl (decide (i = j))) := rfl
@[simp] theorem gNe_int (i j : Int) : gNe (.int i) (.int j) = .ok (.bl (!decide (i = j))) := rfl
@[simp] theorem gEq_bl (i j : Bool) : gEq (.bl i) (.bl j) = .ok (.bl (decide (i = j))) := rfl
@[simp] theorem gNe_bl (i j : Bool) : gNe (.bl i) (.bl j) = .ok (.bl (!decide (i = j))) := rfl
@[simp] theorem gEq_str (i j : Str) : gEq (.str i) (.str j) = .ok (.bl (decide (i = j))) := rfl
theorem atI_nn {α : Type} {xs : List α} {k : Int} (h0 : 0 ≤ k) (h1 : k < xs.length) : atI xs k = xs[k.toNat]? := by
  unfold atI
  have e : ixN xs.length k = some k.toNat := by
    unfold ixN
    rw [if_pos h0, if_pos h1]
  rw [e]; rfl
theorem gIx_lst {xs : List D} {k : Int} {d : D} (h0 : 0 ≤ k) (h : xs[k.toNat]? = some d) : gIx (.lst xs) (.int k) = .ok d := by
  have h1 : k < xs.length := by
    have := (List.getElem?_eq_some_iff.mp h).1
    omega
  show (match dat xs k with | some d => Res.ok d | none => .stuck) = _
  unfold dat
  rw [atI_nn h0 h1, h]
theorem gIx_tup {xs : List D} {k : Int} {d : D} (h0 : 0 ≤ k) (h : xs[k.toNat]? = some d) : gIx (.tup xs) (.int k) = .ok d := by
  have h1 : k < xs.length := by
    have := (List.getElem?_eq_some_iff.mp h).1
    omega
  show (match dat xs k with | some d => Res.ok d | none => .stuck) = _
  unfold dat
  rw [atI_nn h0 h1, h]
theorem compL_all {i : Nat} {me : M} {ω : Store} {ρ : Env'} {d : D} : ∀ {l : List D}, (∀ x ∈ l, me (ρ.set i (.val x)) ω = .ok d) → compL i bTrue me ω ρ l = .ok (l.map fun _ => d)
  | [], _ => rfl
  | x :: r, h => by
    unfold compL
    rw [h x List.mem_cons_self, compL_all fun y hy => h y (List.mem_cons_of_mem _ hy)]
    rfl
@[simp] theorem rangeD_len (lo : Int) (n : Nat) : (rangeD lo n).length = n := by simp [rangeD]
theorem rangeD_mem {n : Nat} {x : D} (h : x ∈ rangeD 0 n) : ∃ j : Nat, j < n ∧ x = .int (j : Int) := by
  unfold rangeD at h
  obtain ⟨j, hj, e⟩ := List.mem_map.mp h
  exact ⟨j, List.mem_range.mp hj, by rw [← e, Int.zero_add]⟩
theorem asRng1_int {i : Int} (h0 : 0 ≤ i) (h : i ≤ 1000000) : asRng1 (.int i) = .ok (rangeD 0 i.toNat) := by
  have hb : (i < 4611686018427387904 ∧ -4611686018427387904 ≤ i) := by omega
  exact @if_pos _ (Classical.propDecidable _) hb _ _ _
theorem asRng1_len {n : Nat} (h : n ≤ 1000000) : asRng1 (.int n) = .ok (rangeD 0 n) := by
  have := asRng1_int (i := (n : Int)) (by omega) (by omega)
  rwa [Int.toNat_natCast] at this
end DL
namespace DL
open PySem PySem.Spec PySem.Calls PyProof.Rows L2

/-! ### texts joined, split -/
section
variable {X : Cx} {Wx : WX} {pos p apos : Pos} {a b : Expr} {Ba Bb : List Nat} {ma mb : M} {x : Str}
noncomputable def gJoin (x y : D) : Res D := match x, y with
  | .str a, .lst xs => (match D.strs? xs with
    | some ys => @ite _ ((ys.map (·.length)).sum + ys.length * a.length ≤ 16777216) (Classical.propDecidable _) (.ok (.str (Txt.join a ys))) .stuck
    | none => .stuck)
  | _, _ => .stuck
/-- the receiver is a text -/
@[simp] noncomputable def mStrM (ma mb : M) (g : D → D → Res D) : M := fun ρ ω => (ma ρ ω).bind fun x => match x with
  | .str s => (mb ρ ω).bind fun y => g (.str s) y
  | _ => .stuck
theorem strM_read {W : Wd} {F : Fm} {ρ : Env'} {ω : Store} {L : Lc} {σ : L2.St} {H : Hp} {Q : VK} {B : List Nat} {g : D → D → Res D} {r : V → List V → Hp → VK → Prop} (hA : ∀ i ∈ Ba, i ∈ B) (hB : ∀ i ∈ Bb, i ∈ B) (R : Rel W F ρ ω L σ H) (h : Leaf W Wx L B σ H Q (mStrM ma mb g ρ ω))
    (hr : ∀ (s : Str) (y : D) (w : V) (H2 : Hp), Rel W F ρ ω L σ H2 → RepU W H2 (Fr L B) (obs L) y w → Leaf W Wx L B σ H2 Q (g (.str s) y) → r (.str s) [w] H2 Q) : tM1 r (tU W Wx Ba ma) (tU W Wx Bb mb) σ H Q := by
  refine part1 (B := B) (k := fun x => match x with
    | .str s => (mb ρ ω).bind fun y => g (.str s) y
    | _ => .stuck) hA R h fun v H1 x s1 R1 r1 l1 => ?_
  cases x with
  | str s =>
    have e : v = .str s := r1
    subst e
    refine ⟨⟨s, rfl⟩, part1 (B := B) (k := fun y => g (.str s) y) hB R1 l1 fun w H2 y s2 R2 r2 l2 => hr s y w H2 R2 r2 l2⟩
  | _ => exact l1.elim
theorem d_join (ha : DU X Wx Ba a ma) (hb : DU X Wx Bb b mb) (hs : starEach [b] X.env = [(false, eval b X.env)] := by rfl) (hbase : attributeBase a "join" X.env (eval a X.env) = eval a X.env := by rfl) (hline : (apos.endLine == pos.line) = true := by rfl) :
    DP X Wx (Ba ++ Bb) (.Call (.Attribute a "join" apos) [b] [] pos) (mStrM ma mb gJoin) :=
  ⟨PE.weak (pe_join ha.pe hb.pe hs hbase hline) fun σ H Q ⟨F, ρ, ω, L, R, h⟩ => strM_read subl subr R h fun s y w H2 R2 r2 l => by
    unfold gJoin at l
    cases y with
    | lst xs =>
      dsimp only at l
      split at l
      · rename_i ys e
        split at l
        · rename_i hl
          obtain ⟨p, vs, e1, h1, q⟩ := r2
          rw [D.strs_some e] at q
          exact ⟨s, p, ys, rfl, by rw [e1], .inl (.of (by rw [← Reps.strs q]; exact h1)), hl, l.ret rfl⟩
        · exact l.elim
      · exact l.elim
    | _ => exact l.elim⟩
noncomputable def gSplit (x y : D) : Res D := match x, y with
  | .str a, .str b => @ite _ ((b.length == 0) = false ∧ a.length + 2 ≤ 16777216) (Classical.propDecidable _) (.ok (.lst ((Txt.split a b).map .str))) .stuck
  | _, _ => .stuck
theorem d_split (ha : DU X Wx Ba a ma) (hb : DU X Wx Bb b mb) (hs : starEach [b] X.env = [(false, eval b X.env)] := by rfl) (hbase : attributeBase a "split" X.env (eval a X.env) = eval a X.env := by rfl) (hline : (apos.endLine == pos.line) = true := by rfl) :
    DP X Wx (Ba ++ Bb) (.Call (.Attribute a "split" apos) [b] [] pos) (mStrM ma mb gSplit) :=
  ⟨PE.weak (pe_split ha.pe hb.pe hs hbase hline) fun σ H Q ⟨F, ρ, ω, L, R, h⟩ => strM_read subl subr R h fun s y w H2 R2 r2 l => by
    unfold gSplit at l
    cases y with
    | str t =>
      dsimp only at l
      split at l
      · rename_i hl
        have e : w = .str t := r2
        subst e
        refine ⟨s, t, rfl, rfl, hl.1, by rw [sizeLine_eq]; exact hl.2, fun z hz => ?_⟩
        exact l.ret' (same_upd hz) ⟨z, _, rfl, R2.al.fr hz _, upd_same, Reps.ofStrs _⟩
      · exact l.elim
    | _ => exact l.elim⟩
/-! ### a module's tuple of texts -/
structure Ct (K : PySem.W.Frag) (mg : Str → Option Value) (x : Str) (ds : List Str) : Prop where
  ex : ∃ a, mg x = some (.ref a) ∧ KT K a (ds.map V.str)
def ctB (K : PySem.W.Frag) (x : Str) (ds : List Str) : Bool := match K.lookup (He.ga K x) with
  | some ⟨.type t, _, .seq its _, _⟩ => decide (t = "tuple") && (decide (its.size ≤ 1000) && He.relAll (ds.map V.str) its.toList)
  | _ => false
theorem ctB_ok {K : PySem.W.Frag} {mg : Str → Option Value} {x : Str} {ds : List Str} (hm : mg x = some (.ref (He.ga K x))) (h : ctB K x ds = true) : Ct K mg x ds := by
  unfold ctB at h
  split at h
  · rename_i t dd its n sl lk
    obtain ⟨h1, h⟩ := Bool.and_eq_true_iff.mp h
    obtain ⟨h2, h3⟩ := Bool.and_eq_true_iff.mp h
    refine ⟨_, hm, _, its, n, lk, by rw [of_decide_eq_true h1], rfl, ?_, He.relAll_ok h3⟩
    have := of_decide_eq_true h2
    rw [sizeLine_eq]; omega
  · cases h
theorem d_ctS {ds : List Str} (hg : Gl X x) (c : Ct X.K X.mg x ds) (hd : (x == ("__debug__" : Str)) = false := by decide) : DP X Wx [] (.Name x pos) (mC (.ctup (ds.map .str))) := by
  obtain ⟨a, hm, kt⟩ := c.ex
  exact d_const (pe_glob (v := .ref a) hg hm rfl hd) fun H S ob => ⟨a, _, rfl, kt, Reps.ofStrs ds⟩
end
end DL
namespace DL
open PySem PySem.Spec PyProof.Rows L2

/-! ### the mirrors over texts -/
@[simp] theorem gLen_str {s : Str} (h : s.length ≤ 1000000) : gLen (.str s) = .ok (.int s.length) := @if_pos _ (Classical.propDecidable _) (by omega) _ _ _
theorem gAdd_str {a b : Str} (h : a.length + b.length ≤ 1000000) : gAdd (.str a) (.str b) = .ok (.str (a ++ b)) := @if_pos _ (Classical.propDecidable _) (by omega) _ _ _
theorem gAdd_lst {a b : List D} (h : a.length + b.length ≤ 1000000) : gAdd (.lst a) (.lst b) = .ok (.lst (a ++ b)) := @if_pos _ (Classical.propDecidable _) (by omega) _ _ _
theorem gMul_lst {a : List D} {n : Int} (h : 0 ≤ n ∧ n ≤ 1000 ∧ a.length ≤ 1000) : gMul (.lst a) (.int n) = .ok (.lst (List.replicate n.toNat a).flatten) := if_pos h
theorem gSl_str {s : Str} {lo hi : Option Int} (h : s.length ≤ 1000000) : gSl (.str s) lo hi = .ok (.str (cutS s lo hi)) := @if_pos _ (Classical.propDecidable _) (by omega) _ _ _
@[simp] theorem gSl_lst {xs : List D} {lo hi : Option Int} : gSl (.lst xs) lo hi = .ok (.lst (cutD xs lo hi)) := rfl
theorem gIx_str {s : Str} {k : Int} (h0 : 0 ≤ k) (h1 : k < s.length) (hl : s.length ≤ 1000000) : ∃ c, s.cps.toList[k.toNat]? = some c ∧ gIx (.str s) (.int k) = .ok (.str ⟨#[c]⟩) := by
  have hsz : s.cps.toList.length = s.length := by rw [Array.length_toList]; rfl
  have hk : k.toNat < s.cps.toList.length := by omega
  refine ⟨s.cps.toList[k.toNat], List.getElem?_eq_getElem hk, ?_⟩
  show @ite _ (s.length ≤ 16777216) (Classical.propDecidable _) (match atI s.cps.toList k with
    | some c => Res.ok (D.str ⟨#[c]⟩)
    | none => .stuck) .stuck = _
  rw [@if_pos _ (Classical.propDecidable _) (by omega), atI_nn h0 (by omega), List.getElem?_eq_getElem hk]
theorem append_len (a b : Str) : (a ++ b).length = a.length + b.length := by
  show (a.cps ++ b.cps).size = _
  rw [Array.size_append]; rfl
theorem cutS_len (s : Str) (lo hi : Option Int) : (cutS s lo hi).length ≤ s.length := by
  show ((s.cps.toList.drop _).take _).toArray.size ≤ _
  rw [List.size_toArray, List.length_take, List.length_drop, Array.length_toList]
  have : s.cps.size = s.length := rfl
  omega
theorem one_len (c : Nat) : Str.length ⟨#[c]⟩ = 1 := rfl
theorem gIn_sign (c : Nat) (t : Str) : gIn (.str ⟨#[c]⟩) (.str t) = .ok (.bl (decide (c ∈ t.cps.toList))) := rfl
theorem gNotIn_sign (c : Nat) (t : Str) : gNotIn (.str ⟨#[c]⟩) (.str t) = .ok (.bl (!decide (c ∈ t.cps.toList))) := rfl
theorem signsD_len (s : Str) : (signsD s).length = s.length := by
  unfold signsD
  rw [List.length_map, Array.length_toList]; rfl
theorem compL_map {i : Nat} {me : M} {ω : Store} {ρ : Env'} {α : Type} {f : α → D} {g : α → D} : ∀ {l : List α}, (∀ x ∈ l, me (ρ.set i (.val (f x))) ω = .ok (g x)) → compL i bTrue me ω ρ (l.map f) = .ok (l.map g)
  | [], _ => rfl
  | x :: r, h => by
    rw [List.map_cons]
    unfold compL
    rw [h x List.mem_cons_self, compL_map fun y hy => h y (List.mem_cons_of_mem _ hy)]
    rfl
theorem bls_map : ∀ (l : List Bool), D.bls? (l.map .bl) = some l
  | [] => rfl
  | a :: l => by show (D.bls? (l.map .bl)).map (a :: ·) = _; rw [bls_map l]; rfl
theorem gAll_bls (l : List Bool) : gAll (.lst (l.map .bl)) = .ok (.bl (l.all id)) := by
  show (match D.bls? (l.map .bl) with
    | some bs => Res.ok (D.bl (bs.all id))
    | none => .stuck) = _
  rw [bls_map]
theorem gJoin_ok {a : Str} {ys : List Str} (h : (ys.map (·.length)).sum + ys.length * a.length ≤ 1000000) : gJoin (.str a) (.lst (ys.map .str)) = .ok (.str (Txt.join a ys)) := by
  show (match D.strs? (ys.map .str) with
    | some ys => @ite _ ((ys.map (fun y : Str => y.length)).sum + ys.length * a.length ≤ 16777216) (Classical.propDecidable _) (Res.ok (D.str (Txt.join a ys))) .stuck
    | none => .stuck) = _
  rw [D.strs_map]
  exact @if_pos _ (Classical.propDecidable _) (by omega) _ _ _
theorem cutD_map {α : Type} (f : α → D) (l : List α) (lo hi : Option Int) : cutD (l.map f) lo hi = (cutD l lo hi).map f := by
  unfold cutD
  rw [List.length_map, ← List.map_drop, ← List.map_take]
theorem cutD_mem {α : Type} {l : List α} {k : Nat} {hi : Option Int} {x : α} (h : x ∈ cutD l (some (k : Int)) hi) : ∃ j, k ≤ j ∧ l[j]? = some x := by
  unfold cutD at h
  have h := List.mem_of_mem_take h
  rw [HT.sIx_nat] at h
  obtain ⟨j, hj, e⟩ := List.mem_iff_getElem.mp h
  rw [List.getElem_drop] at e
  rw [List.length_drop] at hj
  refine ⟨min k l.length + j, ?_, ?_⟩
  · by_cases hk : k ≤ l.length
    · rw [Nat.min_eq_left hk]; omega
    · rw [Nat.min_eq_right (by omega)] at hj; omega
  · rw [← e]; exact List.getElem?_eq_getElem _
theorem cutD_len {α : Type} (l : List α) (lo hi : Option Int) : (cutD l lo hi).length ≤ l.length := by
  unfold cutD
  rw [List.length_take, List.length_drop]; omega
end DL
namespace DL
open PySem PySem.Spec PySem.Calls PyProof.Rows L2

/-! ### a module's dict of texts by texts -/
structure Kd (K : PySem.W.Frag) (w : World) (mg : Str → Option Value) (x : Str) (tbl : List (Str × Str)) : Prop where
  ex : ∃ d es n, mg x = some (.ref d) ∧ KDict K w d es n ∧ (∀ z y, tbl.lookup z = some y → ∃ u, PySem.W.nsIn K d z = some (some u) ∧ RelV (.str y) u) ∧ ∀ z, tbl.lookup z = none → PySem.W.nsIn K d z = some none
def kdE (e : DictEntry) : Option (Str × Str) := match e.key, e.val with
  | .str x _, .str y _ => some (x, y)
  | _, _ => none
def kdB (K : PySem.W.Frag) (x : Str) (tbl : List (Str × Str)) : Bool := match K.lookup (He.ga K x) with
  | some ⟨_, _, .dict es _, _⟩ => decide (es.toList.map kdE = tbl.map some)
  | _ => false
theorem kd_get {z : Str} : ∀ {l : List DictEntry} {tbl : List (Str × Str)}, l.map kdE = tbl.map some → (match tbl.lookup z with
    | some y => ∃ e t, l.find? (·.key.isStr z) = some e ∧ e.val = .str y t
    | none => l.find? (·.key.isStr z) = none ∧ l.any (·.refKey) = false)
  | [], [], _ => ⟨rfl, rfl⟩
  | e :: l, [], h => by cases h
  | [], p :: tbl, h => by cases h
  | e :: l, (a, b) :: tbl, h => by
    have h1 : kdE e :: l.map kdE = some (a, b) :: tbl.map some := h
    injection h1 with h2 h3
    have ih := kd_get (z := z) h3
    obtain ⟨eh, ek, ev⟩ := e
    unfold kdE at h2
    split at h2
    · rename_i x t y t' e1 e2
      have h4 := Option.some.inj h2
      obtain ⟨h5, h6⟩ := Prod.mk.inj h4
      subst h5 h6
      have e1 : ek = .str x t := e1
      have e2 : ev = .str y t' := e2
      subst e1 e2
      by_cases hz : z = x
      · subst hz
        simp only [List.lookup, beq_self_eq_true]
        exact ⟨⟨eh, .str z t, .str y t'⟩, t', by simp [List.find?, Value.isStr], rfl⟩
      · have hz1 : (z == x) = false := by simpa using hz
        have hz2 : (Value.str x t).isStr z = false := by
          have : ¬ x = z := fun e => hz e.symm
          simp [Value.isStr, this]
        simp only [List.lookup, hz1]
        have r : DictEntry.refKey ⟨eh, .str x t, .str y t'⟩ = false := rfl
        cases q : tbl.lookup z with
        | some y2 =>
          rw [q] at ih
          obtain ⟨e, t2, h7, h8⟩ := ih
          exact ⟨e, t2, by rw [List.find?_cons, hz2]; exact h7, h8⟩
        | none =>
          rw [q] at ih
          exact ⟨by rw [List.find?_cons, hz2]; exact ih.1, by rw [List.any_cons, r, ih.2]; rfl⟩
    · cases h2
theorem kdB_ok {K : PySem.W.Frag} {w : World} {mg : Str → Option Value} {x : Str} {tbl : List (Str × Str)} (hm : mg x = some (.ref (He.ga K x))) (hk : ∃ es n, KDict K w (He.ga K x) es n) (h : kdB K x tbl = true) : Kd K w mg x tbl := by
  obtain ⟨es, n, k⟩ := hk
  unfold kdB at h
  rw [k.at_] at h
  have e : es.toList.map kdE = tbl.map some := of_decide_eq_true h
  refine ⟨_, es, n, hm, k, fun z y hz => ?_, fun z hz => ?_⟩
  · have q := kd_get (z := z) e
    rw [hz] at q
    obtain ⟨en, t, h1, h2⟩ := q
    refine ⟨en.val, ?_, t, h2⟩
    unfold PySem.W.nsIn
    rw [k.at_]
    show (match es.toList.find? (·.key.isStr z) with
      | some e => some (some e.val)
      | none => if es.toList.any (·.refKey) then none else some none) = _
    rw [h1]
  · have q := kd_get (z := z) e
    rw [hz] at q
    unfold PySem.W.nsIn
    rw [k.at_]
    show (match es.toList.find? (·.key.isStr z) with
      | some e => some (some e.val)
      | none => if es.toList.any (·.refKey) then none else some none) = _
    rw [q.1, q.2]; rfl
section
variable {X : Cx} {Wx : WX} {pos p : Pos} {a b : Expr} {Ba Bb : List Nat} {ma mb : M} {x : Str} {tbl : List (Str × Str)}
@[simp] def gKdIn (tbl : List (Str × Str)) : D → Res D
  | .str z => .ok (.bl (tbl.lookup z).isSome)
  | _ => .stuck
@[simp] def gKdNin (tbl : List (Str × Str)) : D → Res D
  | .str z => .ok (.bl (!(tbl.lookup z).isSome))
  | _ => .stuck
@[simp] def gKdIx (tbl : List (Str × Str)) : D → Res D
  | .str z => (match tbl.lookup z with
    | some y => .ok (.str y)
    | none => .stuck)
  | _ => .stuck
@[simp] def bOf (m : M) : Env' → Store → Res Bool := fun ρ ω => (m ρ ω).bind fun z => match z with | .bl k => .ok k | _ => .stuck
theorem t_kdNin (hg : Gl X x) (c : Kd X.K X.w X.mg x tbl) (ha : DU X Wx Ba a ma) (hd : (x == ("__debug__" : Str)) = false := by decide) : DB X Wx (.Compare a [.NotIn] [.Name x p] pos) (bOf (m1 ma (gKdNin tbl))) := by
  obtain ⟨d, es, n, hm, k, h1, h2⟩ := c.ex
  refine ⟨PT.weak (pt_cmpR (op_notIn_kd k) ha.pe (pe_glob (v := .ref d) hg hm rfl hd) (by rfl)) fun σ H Q ⟨F, ρ, ω, L, R, h⟩ => ?_⟩
  have h : LeafB (wd X) Wx L σ H Q ((m1 ma (gKdNin tbl) ρ ω).bind fun z => match z with | .bl k => .ok k | _ => .stuck) := h
  refine part1 (B := Ba) (Q := fun x H' => ∃ k, x = .bl k ∧ Q k H') (k := gKdNin tbl) subid R (leaf_b h) fun v H1 y s R1 r l => ?_
  cases y with
  | str z =>
    have e : v = .str z := r
    subst e
    cases q : tbl.lookup z with
    | none =>
      change Leaf _ _ _ _ _ _ _ (.ok (.bl (!(tbl.lookup z).isSome))) at l
      rw [q] at l
      exact ⟨z, none, rfl, rfl, h2 z q, l.ret rfl⟩
    | some y =>
      obtain ⟨u, e1, e2⟩ := h1 z y q
      change Leaf _ _ _ _ _ _ _ (.ok (.bl (!(tbl.lookup z).isSome))) at l
      rw [q] at l
      exact ⟨z, some u, rfl, rfl, e1, l.ret rfl⟩
  | _ => exact l.elim
theorem d_kdIx (hg : Gl X x) (c : Kd X.K X.w X.mg x tbl) (hb : DU X Wx Bb b mb) (hd : (x == ("__debug__" : Str)) = false := by decide) (hs : PlainIx b := by exact fun _ _ => rfl) : DP X Wx Bb (.Subscript (.Name x p) b pos) (m1 mb (gKdIx tbl)) := by
  obtain ⟨d, es, n, hm, k, h1, h2⟩ := c.ex
  have ix : IxR X (fun x y H Q => ∃ (z : Str) (u0 : Value) (v0 : V), x = .ref d ∧ y = .str z ∧ PySem.W.nsIn X.K d z = some (some u0) ∧ RelV v0 u0 ∧ Q v0 H) := by
    intro value slice pins s σ H x y v u Q I rx ry h hs
    obtain ⟨z, u0, v0, rfl, rfl, e, r, q⟩ := h
    cases rx
    obtain ⟨t, rfl⟩ := ry
    exact tail_any (kd_type k I) PySem.F.slot_dict_getitem.lookup (wpAny_getItem_of (PySem.strKind_is X.prog X.w z t) (PySem.W.mapOf_K (prog := X.prog) I.kIn k.at_ k.lit) (PySem.W.find_K k.at_ e) ⟨v0, H, I.tok _, r, q⟩) hs
  refine ⟨PE.weak (pe_ix ix (pe_glob (v := .ref d) hg hm rfl hd) hb.pe hs) fun σ H Q ⟨F, ρ, ω, L, R, h⟩ => ?_⟩
  refine part1 (B := Bb) (k := gKdIx tbl) subid R h fun v H1 y s R1 r l => ?_
  cases y with
  | str z =>
    have e : v = .str z := r
    subst e
    cases q : tbl.lookup z with
    | none =>
      exfalso
      change Leaf _ _ _ _ _ _ _ (match tbl.lookup z with | some y => .ok (.str y) | none => .stuck) at l
      rw [q] at l
      exact l
    | some y =>
      obtain ⟨u, e1, e2⟩ := h1 z y q
      refine ⟨z, u, .str y, rfl, rfl, e1, e2, ?_⟩
      change Leaf _ _ _ _ _ _ _ (match tbl.lookup z with | some y => .ok (.str y) | none => .stuck) at l
      rw [q] at l
      exact l.ret rfl
  | _ => exact l.elim
end
end DL
namespace DL
open PySem PySem.Spec PySem.Calls PyProof.Rows L2

/-! ### enumerate(text) -/
def Ites (x : Str) : It := ⟨fun i _ => i < x.cps.size, fun i H v H' => ∃ (T : Addr) (c : Nat), v = .ref T ∧ H T = none ∧ H' = upd H T (.tup [.int (i : Nat), .str ⟨#[c]⟩]) ∧ x.cps[i]? = some c, fun i _ => x.cps.size ≤ i⟩
theorem draws_str {P : Program} {w : World} {A : Around} (hh : A.handled = none) (it : Addr) (x : Str) (t : Tok) (ty : String) (hty : ty = "str_ascii_iterator" ∨ ty = "str_iterator") :
    Draws P w A it [it] x.cps.size (fun i v => ∃ c u, x.cps[i]? = some c ∧ v = .str ⟨#[c]⟩ u) (fun i h => h.IsStrIter it ty x t i) := by
  rcases hty with z | z
  · rw [z]; exact Draws.strAscii hh it x t
  · rw [z]; exact Draws.strWide hh it x t
theorem turn_enumS {P : Program} {w : World} {K : PySem.W.Frag} {elts : List Expr} {kk : Nat} {tpos : Pos} (e it : Addr) (x : Str) (t : Tok) (ty : String) (hty : ty = "str_ascii_iterator" ∨ ty = "str_iterator") :
    Turn P w K (.Tuple elts kk tpos) (Ites x) [e, it] e (fun i h => (∃ o1, IsEnum h e it ((i : Nat) : Int) o1) ∧ h.IsStrIter it ty x t i ∧ e ≠ it ∧ i ≤ x.cps.size) where
  mem := by simp
  obj := fun i h ⟨⟨o1, h1⟩, ⟨o2, h2, _, h3⟩, _⟩ b hb => by
    rcases (show b = e ∨ b = it from by simpa using hb) with z | z
    · rw [z]; exact ⟨_, h1, fun v q => nomatch q⟩
    · rw [z]; exact ⟨o2, h2, fun v q => by rw [h3] at q; cases q⟩
  keep := fun i h h' ⟨⟨o1, h1⟩, ⟨o2, h2, h3⟩, h4, h5⟩ k => ⟨⟨o1, k e (by simp) _ h1⟩, ⟨o2, k it (by simp) _ h2, h3⟩, h4, h5⟩
  item := by
    intro X hP hw hK hc i pins s σ H E I hf ⟨⟨o1, h1⟩, h2, ne, _⟩ hg
    subst hP hw hK
    have D := draws_str (P := X.prog) (w := X.w) (A := X.A.in1) (I.ok.hd hc) it x t ty hty
    have se : e < s.heap.objs.size := Heap.lt_size h1
    have si : it < s.heap.objs.size := by obtain ⟨_, q, _⟩ := h2; exact Heap.lt_size q
    refine wpAny_pyNext_enum_itemD D h1 h2 hg ne (by simpa using ne) fun y h' tk ⟨c, u, hcx, ey⟩ eo st' ht hsz kp => ?_
    subst ey
    refine ⟨_, rfl, wpAny_letOwnedTupleGo_enum (s := { s with heap := h', toks := tk + 1 }) eo fun h2' eo2 sb => ?_⟩
    have tup2 := (sb.2 _ (Nat.ne_of_gt se)).trans ht
    have ob : ObjOk X.prog X.w (upd H s.heap.objs.size (.tup [.int (i : Nat), .str ⟨#[c]⟩])) h2' s.heap.objs.size (.tup [.int (i : Nat), .str ⟨#[c]⟩]) :=
      ⟨by show 2 ≤ sizeLine; decide, [.int i tk, .str ⟨#[c]⟩ u], .cons ⟨_, rfl⟩ (.cons ⟨_, rfl⟩ .nil), ⟨_, tup2, rfl, _, rfl⟩⟩
    have J : Inv X pins σ (upd H s.heap.objs.size (.tup [.int (i : Nat), .str ⟨#[c]⟩])) { s with heap := h2', toks := tk + 1 } :=
      I.turnedNew (ch := [e, it]) (fun b o hb q => (sb.2 b (fun z => hb (by simp [z]))).trans (kp b o (fun z => hb (by simp [z])) (fun z => hb (by simp [z])) q)) hf (Nat.le_refl _) ob
    refine ⟨.ref s.heap.objs.size, _, J, rfl, ⟨_, c, rfl, I.hok.fresh (Nat.le_refl _), rfl, hcx⟩, ⟨⟨.str ⟨#[c]⟩ u, ?_⟩, ?_, ne, hg⟩, fun b hb => ?_⟩
    · rw [show ((i + 1 : Nat) : Int) = (i : Int) + 1 from by omega]; exact eo2
    · obtain ⟨o3, e3, e4⟩ := st'
      exact ⟨o3, (sb.2 it (Ne.symm ne)).trans e3, e4⟩
    · have hb2 : b < s.heap.objs.size := by
        rcases (show b = e ∨ b = it from by simpa using hb) with z | z
        · rw [z]; exact se
        · rw [z]; exact si
      rw [upd_ne (Nat.ne_of_lt hb2)]; exact (hf b hb).1
  done := by
    intro X hP hw hK hc i pins s σ H E I hf ⟨⟨o1, h1⟩, h2, ne, hle⟩ hg
    subst hP hw hK
    have D := draws_str (P := X.prog) (w := X.w) (A := X.A.in1) (I.ok.hd hc) it x t ty hty
    obtain ⟨f0, f1, f2, f3, f4, f5⟩ := hf it (by simp)
    have ei : i = x.cps.size := Nat.le_antisymm hle hg
    rw [ei] at h2
    exact wpAny_pyNext_enum_endD D h1 h2 fun h' eb => ⟨rfl, I.turned (t' := s.toks) (fun b o hb q => eb b o hb q) f0 f1 f3 f4 f5⟩
  self := fun A i s Q E ⟨⟨_, h1⟩, _⟩ h => wpAny_pyIter_enum h1 h
def iEnumSt (ta : TA) : TI := fun σ H R => ta σ H fun vs H1 => ∃ x, vs = [.str x] ∧ R (Ites x) H1
section
variable {X : Cx} {Wx : WX} {a e : Expr} {ta : TA} {p pos tpos : Pos} {elts : List Expr} {kk : Nat} {B : List Nat} {m : M}
theorem pi_enumS (hg : Gl X "enumerate") (hm : X.mg "enumerate" = none) (ha : PA X [e] ta) (hs : starEach [e] X.env = [(false, eval e X.env)] := by rfl) : PI X (.Tuple elts kk tpos) (.Call (.Name "enumerate" p) [e] [] pos) (iEnumSt ta) := by
  refine ⟨fun pins s σ H R I h => Call_ (ld_blt I hg hm boot_enumerate (PyProof.Rows.callWith_type1 (thn (ha.run pos pins s σ H _ I h) fun us s1 ⟨vs, H1, I1, r1, x, ev, q⟩ => ?_) hs rfl))⟩
  subst ev
  cases r1 with
  | cons r rn =>
    cases rn
    obtain ⟨t, rfl⟩ := r
    refine call_enumerate_str fun h' he hit hsz hk => wpAny_pyIter_enum he ?_
    have I2 : Inv X pins σ H1 { s1 with heap := h' } := I1.kept (t' := s1.toks) hk
    have fin : ∀ ty, (ty = "str_ascii_iterator" ∨ ty = "str_iterator") → h'.IsStrIter s1.heap.objs.size ty x t 0 → PIE X pins σ (.Tuple elts kk tpos) R (.ref (s1.heap.objs.size + 1)) { s1 with heap := h' } := fun ty hty hi => by
      refine ⟨s1.heap.objs.size + 1, [s1.heap.objs.size + 1, s1.heap.objs.size], _, _, H1, rfl, I2, turn_enumS (s1.heap.objs.size + 1) s1.heap.objs.size x t ty hty, ⟨⟨.none, he⟩, hi, Nat.succ_ne_self _, Nat.zero_le _⟩, fun b hb => ?_, q⟩
      have hle : s1.heap.objs.size ≤ b := by
        rcases (show b = s1.heap.objs.size + 1 ∨ b = s1.heap.objs.size from by simpa using hb) with z | z
        · rw [z]; exact Nat.le_succ _
        · rw [z]; exact Nat.le_refl _
      exact I1.fpOk hle (I1.hok.fresh hle)
    cases ha : x.cps.all (· < 128)
    · exact fin "str_iterator" (.inr rfl) (by simpa [strIterType, ha] using hit)
    · exact fin "str_ascii_iterator" (.inl rfl) (by simpa [strIterType, ha] using hit)
theorem walks_enumS {W : Wd} {x : Str} : Walks W (Ites x) (enumD 0 (signsD x)) (fun _ _ _ => True) where
  go := fun S ob i H _ hi => by
    rw [enumD_len, signsD_len] at hi
    exact hi
  yld := fun S ob i H y H' _ ⟨T, c, e1, e2, e3, e4⟩ hi => by
    subst e3
    have sm := same_upd (o := .tup [.int (i : Nat), .str ⟨#[c]⟩]) e2
    refine ⟨sm, .tup [.int (i : Nat), .str ⟨#[c]⟩], ?_, T, _, e1, upd_same, ⟨_, _, rfl, rfl, _, _, rfl, rfl, rfl⟩⟩
    rw [enumD_get]
    have : (signsD x)[i]? = some (.str ⟨#[c]⟩) := by
      unfold signsD
      rw [List.getElem?_map, Array.getElem?_toList, e4]; rfl
    rw [this]; simp
  stop := fun S ob i H _ hi => by
    rw [enumD_len, signsD_len] at hi
    exact hi
  kp := fun _ _ _ _ _ _ _ _ => trivial
@[simp] def iEnumStr (m : M) : MA := fun ρ ω => (m ρ ω).bind fun d => match d with
  | .str x => .ok (enumD 0 (signsD x))
  | _ => .stuck
theorem i_enumS (hg : Gl X "enumerate") (hm : X.mg "enumerate" = none) (ha : DP X Wx B a m) (hs : starEach [a] X.env = [(false, eval a X.env)] := by rfl) : DI X Wx B (.Tuple elts kk tpos) (.Call (.Name "enumerate" p) [a] [] pos) (iEnumStr m) :=
  ⟨PI.weak (pi_enumS hg hm (pa_cons ha.pe pa_nil hs) hs) fun σ H R' ⟨F, ρ, ω, L, R, h⟩ => ⟨F, ρ, ω, L, R, leafI_bind R h fun d v H' s R1 q l => by
    cases d with
    | str x =>
      have e : v = .str x := q
      subst e
      exact ⟨x, rfl, l _ H' (fun _ _ _ => True) (Same.refl _) trivial walks_enumS⟩
    | _ => exact l.elim⟩⟩
/-! ### tuple(list) -/
@[simp] def gTuple : D → Res D
  | .lst xs => .ok (.tup xs)
  | _ => .stuck
theorem d_tuple {Ba : List Nat} {ma : M} (hg : Gl X "tuple") (hm : X.mg "tuple" = none) (ha : DU X Wx Ba a ma) (na : starEach [a] X.env = (false, eval a X.env) :: starEach [] X.env := by rfl) : DP X Wx Ba (.Call (.Name "tuple" p) [a] [] pos) (m1 ma gTuple) :=
  ⟨PE.weak (pe_tupleOf hg hm ha.pe na) fun σ H Q ⟨F, ρ, ω, L, R, h⟩ => part1 (k := gTuple) subid R h fun v H1 x s R1 q l => by
    cases x with
    | lst xs =>
      obtain ⟨a, vs, e1, h1, r⟩ := q
      refine .inl ⟨a, vs, e1, .of h1, fun z hz => ?_⟩
      have sm := same_upd (o := .tup vs) hz
      exact l.ret' sm ⟨z, vs, rfl, upd_same, r.same sm⟩
    | _ => exact l.elim⟩
/-! ### name = [..] -/
theorem s_setLc {x y : Str} {py spos : Pos} {elt tg iter : Expr} {ifs : List Expr} {scope : Scope} {Bi Be : List Nat} {ms : MA} {tt : Env' → Store → Res Bool} {me : M} {i j : Nat} (hc : X.calm = true) (hN : X.N.Nodup) (hy : X.N[i]? = some y) (hyl : X.env.scope.names.lookup y = some .local)
    (hsw : swapsWith (.ListComp elt [⟨tg, iter, ifs, 0⟩] scope pos) (some (.Name y py)) spos.line X.env = pure true) (hi : DI X Wx Bi tg iter ms) (ok : BlkOk X.N X.env.scope scope [(x, j)])
    (hg : ∀ (s : Shared) (H : Hp) (C : Addr) (cl : List (Str × Addr)) (fp : List Addr), PG (X.blk s H scope (compEnvC scope cl C X.env) fp) tg (gName j))
    (ht : ∀ (s : Shared) (H : Hp) (C : Addr) (cl : List (Str × Addr)) (fp : List Addr), DTs (X.blk s H scope (compEnvC scope cl C X.env) fp) W0 ifs tt)
    (he : ∀ (s : Shared) (H : Hp) (C : Addr) (cl : List (Str × Addr)) (fp : List Addr), DP (X.blk s H scope (compEnvC scope cl C X.env) fp) W0 Be elt me) (hs : ∀ x, foldedSetIterable iter X.env x = pure x := by intro _; rfl) :
    DS X Wx (.Assign [.Name y py] (.ListComp elt [⟨tg, iter, ifs, 0⟩] scope pos) spos) (sSetO i (j :: (Bi ++ Be)) (mComp j Bi ms tt me)) :=
  ⟨PS.weak (ps_setLc hc hN hy hyl hsw hi.pi ok hg (fun s H C cl fp => (ht s H C cl fp).pts) (fun s H C cl fp => (he s H C cl fp).pe) hs) fun G σ H ⟨F, ρ, ω, L, R, h⟩ => by
    show tLc (tI (wd X) Wx Bi ms) (gName j) (tT (wd X) W0 tt) (tP (wd X) W0 Be me) [j] σ H (fun x H1 => gName i x σ H1 G.nx)
    refine lc_read R ?_
    unfold sSetO ofE at h
    cases z : mComp j Bi ms tt me ρ ω with
    | stuck => rw [z] at h; exact h
    | err e => rw [z] at h; exact fun c d H' s x => h c d ρ σ H' L (R.same s) x
    | ok d =>
      rw [z] at h
      intro a H' s n r
      replace h : LeafS (wd X) Wx F G (if i < ρ.length then .nx ((demO (j :: (Bi ++ Be)) d ρ).set i (.own d)) ω else .stuck) := h
      split at h
      · rename_i hl
        obtain ⟨L', R2⟩ := R.storeO s (B := j :: (Bi ++ Be)) hl n r
        exact h _ H' L' R2
      · exact h.elim⟩
end
end DL
namespace DL
open PySem PySem.Spec PySem.Calls PyProof.Rows L2

theorem Kp.trans {H H1 H2 : Hp} {S S1 S2 : Addr → Prop} {ob ob1 ob2 : Nat → Option Addr} (k : Kp H H1 S S1 ob ob1) (k' : Kp H1 H2 S1 S2 ob1 ob2) : Kp H H2 S S2 ob ob2 :=
  ⟨fun a u f h => k'.s a u (k.s a u f h) (k.k a u f h), fun a u f h => k'.k a u (k.s a u f h) (k.k a u f h), fun a xs h => k'.t a xs (k.t a xs h), fun n a h => k'.o n a (k.o n a h)⟩
/-! ### behind a call that changes objects -/
def lcB (L L' : Lc) : Lc := fun p => match p with
  | .sl i => L (.sl i)
  | .fg a => L (.fg a)
  | p => L' p
section
variable {W : Wd} {F : Fm} {ρ ρ' : Env'} {ω ω' : Store} {L L' : Lc} {σ σ' : L2.St} {H H' : Hp} {n1 : Nat}
theorem back_fg (R : Rel W F ρ ω L σ H) (R' : Rel W ⟨n1, lcC L [], H⟩ [] ω' L' [] H') {p : Pl} {a : Addr} (hp : (∃ i, p = .sl i) ∨ ∃ b, p = .fg b) (e : L p = some a) : L' (.fg a) = some a := by
  have h : L' (.fg a) = lcC L [] (.fg a) := R'.aft.prot (.fg a) (fun z => z)
  rw [h]
  refine lcC_fg ?_
  rcases hp with ⟨i, rfl⟩ | ⟨b, rfl⟩
  · exact .inr ⟨i, List.not_mem_nil, e⟩
  · have := R.fgs b a e
    subst this
    exact .inl e
theorem kp_back (R : Rel W F ρ ω L σ H) (R' : Rel W ⟨n1, lcC L [], H⟩ [] ω' L' [] H') : Kp H' H' (Fr L' []) (Fr (lcB L L') []) (obs L') (obs (lcB L L')) where
  s := fun a u f _ p e => by
    have no : ∀ q, L' q = some a → False := fun q z => by
      obtain ⟨i, m, _⟩ := f q z
      cases m
    cases p with
    | sl i => exact (no _ (back_fg R R' (.inl ⟨i, rfl⟩) e)).elim
    | fg b => exact (no _ (back_fg R R' (.inr ⟨b, rfl⟩) e)).elim
    | fd n f => exact (no _ e).elim
    | ob n => exact (no _ e).elim
  k := fun _ _ _ h => h
  t := fun _ _ h => h
  o := fun n a h => h
theorem kp_over (R : Rel W F ρ ω L σ H) (R' : Rel W ⟨F.n0, lcC L [], H⟩ [] ω' L' [] H') : Kp H H' (Fr L []) (Fr (lcB L L') []) (obs L) (obs (lcB L L')) :=
  ((kp_call0 (B := [])).trans (R'.aft.kp (R.into [] F.n0 fun _ _ h => h).alive)).trans (kp_back R R')
theorem keep_slot (R : Rel W F ρ ω L σ H) (R' : Rel W ⟨n1, lcC L [], H⟩ [] ω' L' [] H') {i : Nat} {a : Addr} {u : HO} (e : L (.sl i) = some a) (h : H a = some u) : H' a = some u := by
  refine R'.aft.keep a u h fun p e1 m => ?_
  obtain ⟨p', e2, e3⟩ := lcC_some e1
  have ep := R.inj _ _ a e e2
  subst ep
  rcases e3 with ⟨rfl, k⟩ | ⟨rfl, _⟩
  · exact k i rfl
  · exact m
theorem Rel.back (R : Rel W F ρ ω L σ H) (R' : Rel W ⟨F.n0, lcC L [], H⟩ [] ω' L' [] H') : Rel W F ρ ω' (lcB L L') σ H' where
  inj := fun p q a e1 e2 => by
    cases p with
    | sl i => cases q with
      | sl j => exact R.inj _ _ a e1 e2
      | fg b => exact R.inj _ _ a e1 e2
      | fd n f => cases R'.inj _ _ a (back_fg R R' (.inl ⟨i, rfl⟩) e1) e2
      | ob n => cases R'.inj _ _ a (back_fg R R' (.inl ⟨i, rfl⟩) e1) e2
    | fg i => cases q with
      | sl j => exact R.inj _ _ a e1 e2
      | fg b => exact R.inj _ _ a e1 e2
      | fd n f => cases R'.inj _ _ a (back_fg R R' (.inr ⟨i, rfl⟩) e1) e2
      | ob n => cases R'.inj _ _ a (back_fg R R' (.inr ⟨i, rfl⟩) e1) e2
    | fd n f => cases q with
      | sl j => cases R'.inj _ _ a (back_fg R R' (.inl ⟨j, rfl⟩) e2) e1
      | fg b => cases R'.inj _ _ a (back_fg R R' (.inr ⟨b, rfl⟩) e2) e1
      | fd n f => exact R'.inj _ _ a e1 e2
      | ob n => exact R'.inj _ _ a e1 e2
    | ob n => cases q with
      | sl j => cases R'.inj _ _ a (back_fg R R' (.inl ⟨j, rfl⟩) e2) e1
      | fg b => cases R'.inj _ _ a (back_fg R R' (.inr ⟨b, rfl⟩) e2) e1
      | fd n f => exact R'.inj _ _ a e1 e2
      | ob n => exact R'.inj _ _ a e1 e2
  alive := fun p a e => by
    cases p with
    | sl i => exact R'.alive _ a (back_fg R R' (.inl ⟨i, rfl⟩) e)
    | fg b => exact R'.alive _ a (back_fg R R' (.inr ⟨b, rfl⟩) e)
    | fd n f => exact R'.alive _ a e
    | ob n => exact R'.alive _ a e
  aft :=
    { keep := fun a u h hp => R'.aft.keep a u (R.aft.keep a u h hp) fun p e m => by
        obtain ⟨p', e1, e2⟩ := lcC_some e
        rcases e2 with ⟨rfl, k⟩ | ⟨rfl, _⟩
        · rcases m.cases with ⟨i, rfl⟩ | m'
          · exact k i rfl
          · rcases R.aft.newM p' a m' e1 with ⟨q, mq, eq⟩ | z
            · exact hp q eq mq.mt
            · rw [h] at z; cases z
        · exact m
      newS := fun i a e => R.aft.newS i a e
      newM := fun p a m e => by
        have e' : L' p = some a := by cases p <;> first | exact e | exact m.elim
        rcases R'.aft.newM p a m e' with ⟨q, mq, eq⟩ | z
        · obtain ⟨q', e1, e2⟩ := lcC_some eq
          rcases e2 with ⟨rfl, _⟩ | ⟨rfl, _⟩
          · exact R.aft.newM q' a mq e1
          · exact mq.elim
        · exact .inr (R.aft.fresh z)
      prot := fun p m => by
        cases p with
        | sl i => exact absurd trivial m
        | fg b => exact R.aft.prot _ m
        | fd n f => exact (R'.aft.prot (.fd n f) m).trans (R.aft.prot _ m)
        | ob n => exact (R'.aft.prot (.ob n) m).trans (R.aft.prot _ m)
      obk := fun n a h => R'.aft.obk n a (R.aft.obk n a h)
      there := fun a u h => by
        obtain ⟨v, q⟩ := R.aft.there a u h
        exact R'.aft.there a v q }
  fgs := fun a b e => R.fgs a b e
  len := R.len
  sl := fun i s e => by
    have q := R.sl i s e
    cases s with
    | no => trivial
    | val d =>
      obtain ⟨x, e1, r⟩ := q
      exact ⟨x, e1, Rep.mono (kp_over R R') d x r⟩
    | own d =>
      obtain ⟨a, e1, l, r⟩ := q
      refine ⟨a, e1, l, RepO.mono (kp_over R R') (fun u h => ⟨fun z => keep_slot R R' l (h.1 z), ?_⟩) (fun xs h => keep_slot R R' l h) r⟩
      rcases h.2 with h | ⟨o, h⟩
      · exact .inl (keep_slot R R' l h)
      · exact .inr ⟨o, keep_slot R R' l h⟩
  st := fun n o e => ObR.places (kp_back R R') (fun f => rfl) (R'.st n o e)
  dom := R'.dom
end

/-! ### expressions that may change objects -/
inductive RE where
  | stuck
  | ok (d : D) (ρ : Env') (ω : Store)
  | er (e : Er) (ω : Store)
abbrev MX := Nat → Env' → Store → RE
def RE.bind (r : RE) (k : D → Env' → Store → RE) : RE := match r with
  | .stuck => .stuck
  | .er e ω => .er e ω
  | .ok d ρ ω => k d ρ ω
@[simp] theorem RE.bind_ok {d : D} {ρ : Env'} {ω : Store} {k : D → Env' → Store → RE} : (RE.ok d ρ ω).bind k = k d ρ ω := rfl
@[simp] theorem RE.bind_stuck {k : D → Env' → Store → RE} : RE.stuck.bind k = .stuck := rfl
@[simp] theorem RE.bind_er {e : Er} {ω : Store} {k : D → Env' → Store → RE} : (RE.er e ω).bind k = .er e ω := rfl
@[simp] def ofR (r : Res D) (ρ : Env') (ω : Store) : RE := match r with
  | .stuck => .stuck
  | .err e => .er e ω
  | .ok d => .ok d ρ ω
def LeafX (W : Wd) (Wx : WX) (F : Fm) (σ : L2.St) (Q : VK) : RE → Prop
  | .stuck => False
  | .ok d ρ ω => ∀ v H L, Rel W F ρ ω L σ H → Rep W H (Fr L []) (obs L) d v → Q v H
  | .er e ω => ∀ cls dd ρ H L, Rel W F ρ ω L σ H → Exc W H e cls dd → Wx cls dd σ H
def tX (W : Wd) (Wx : WX) (m : MX) : TE := fun σ H Q => ∃ F ρ ω L, Rel W F ρ ω L σ H ∧ LeafX W Wx F σ Q (m F.n0 ρ ω)
structure DX (X : Cx) (Wx : WX) (e : Expr) (m : MX) : Prop where
  pe : PE X e (tX (wd X) Wx m)
section
variable {W : Wd} {Wx : WX} {F : Fm} {ρ ρ' : Env'} {ω ω' : Store} {L L' : Lc} {σ σ' : L2.St} {H H' : Hp}
theorem leafX_bind {r : RE} {k : D → Env' → Store → RE} {Q : VK} (R : Rel W F ρ ω L σ H) (h : LeafX W Wx F σ Q (r.bind k)) {P : VK}
    (hP : ∀ d ρ' ω' v H' L', r = .ok d ρ' ω' → Rel W (F.at L H) ρ' ω' L' σ H' → Rep W H' (Fr L' []) (obs L') d v → LeafX W Wx F σ Q (k d ρ' ω') → P v H') : LeafX W Wx (F.at L H) σ P r := by
  cases r with
  | stuck => exact h
  | er e ω => exact fun c dd ρ H L R' x => h c dd ρ H L (R.up R') x
  | ok d ρ' ω' => exact fun v H' L' R' q => hP d ρ' ω' v H' L' rfl R' q h
theorem leafX_ofR {g : Res D} {Q : VK} (R : Rel W F ρ ω L σ H) (h : LeafX W Wx F σ Q (ofR g ρ ω)) : Leaf W Wx L [] σ H Q g := by
  cases g with
  | stuck => exact h
  | err e => exact fun c d H' s x => h c d ρ H' L (R.same s) x
  | ok d => exact fun v H' s q => h v H' L (R.same s) q
end
section
variable {X : Cx} {Wx : WX} {pos p p' apos : Pos} {a b c e o : Expr} {es : List Expr} {Ba Bb B : List Nat} {ma mb m : M} {xa xb : MX} {x y f : Str}
@[simp] def xP (B : List Nat) (m : M) : MX := fun _ ρ ω => match m ρ ω with
  | .stuck => .stuck
  | .err e => .er e ω
  | .ok d => .ok d (dem B d ρ) ω
theorem x_pure (h : DP X Wx B e m) : DX X Wx e (xP B m) := ⟨PE.weak h.pe fun σ H Q ⟨F, ρ, ω, L, R, h⟩ => ⟨F, ρ, ω, L, R, by
  unfold xP at h
  cases z : m ρ ω with
  | stuck => rw [z] at h; exact h
  | err e => rw [z] at h; exact fun c d H' s x => h c d ρ H' L (R.same s) x
  | ok d =>
    rw [z] at h
    intro v H' s q
    obtain ⟨L', R', q'⟩ := (R.same s).loosen q
    exact h v H' L' R' q'⟩⟩
/-- two parts, one behind the other -/
theorem part2x {W : Wd} {F : Fm} {ρ : Env'} {ω : Store} {L : Lc} {σ : L2.St} {H : Hp} {Q : VK} {k : D → D → Env' → Store → RE} (R : Rel W F ρ ω L σ H) (h : LeafX W Wx F σ Q ((xa F.n0 ρ ω).bind fun x ρ1 ω1 => (xb F.n0 ρ1 ω1).bind fun y ρ2 ω2 => k x y ρ2 ω2)) {P : V → V → Hp → Prop}
    (hP : ∀ v w H2 L2 ρ2 ω2 x y, Rel W F ρ2 ω2 L2 σ H2 → Rep W H2 (Fr L2 []) (obs L2) x v → Rep W H2 (Fr L2 []) (obs L2) y w → LeafX W Wx F σ Q (k x y ρ2 ω2) → P v w H2) : tX W Wx xa σ H (fun v H1 => tX W Wx xb σ H1 (fun w H2 => P v w H2)) := by
  refine ⟨F.at L H, ρ, ω, L, R.sub, leafX_bind R h fun x ρ1 ω1 v H1 L1 _ R1 q1 l1 => ?_⟩
  have R1' := R.up R1
  refine ⟨F.at L1 H1, ρ1, ω1, L1, R1'.sub, leafX_bind R1' l1 fun y ρ2 ω2 w H2 L2 _ R2 q2 l2 => ?_⟩
  exact hP v w H2 L2 ρ2 ω2 x y (R1'.up R2) (Rep.mono (R2.aft.kp R1'.alive) _ _ q1) q2 l2
@[simp] def xO2 (xa xb : MX) (g : D → D → Res D) : MX := fun n0 ρ ω => (xa n0 ρ ω).bind fun x ρ1 ω1 => (xb n0 ρ1 ω1).bind fun y ρ2 ω2 => ofR (g x y) ρ2 ω2
theorem x_bin {op : Operator} {g : D → D → Res D} {r : R2} (ho : OpR X (binaryOp op) r) (hl : LfOp (wd X) g r) (ha : DX X Wx a xa) (hb : DX X Wx b xb) : DX X Wx (.BinOp a op b pos) (xO2 xa xb g) :=
  ⟨PE.weak (pe_op ho ha.pe hb.pe) fun σ H Q ⟨F, ρ, ω, L, R, h⟩ => part2x (k := fun x y ρ2 ω2 => ofR (g x y) ρ2 ω2) R h fun v w H2 L2 ρ2 ω2 x y R2 p q l => hl Wx L2 [] σ H2 Q x y v w R2.al p.u q.u (leafX_ofR R2 l)⟩
theorem x_cmp {op : CmpOp} {g : D → D → Res D} {r : R2} (ho : OpR X (compareOp op) r) (hl : LfOp (wd X) g r) (hm : behindInMarks op b = false) (ha : DX X Wx a xa) (hb : DX X Wx b xb) : DX X Wx (.Compare a [op] [b] pos) (xO2 xa xb g) :=
  ⟨PE.weak (pe_cmpR ho ha.pe hb.pe hm) fun σ H Q ⟨F, ρ, ω, L, R, h⟩ => part2x (k := fun x y ρ2 ω2 => ofR (g x y) ρ2 ω2) R h fun v w H2 L2 ρ2 ω2 x y R2 p q l => hl Wx L2 [] σ H2 Q x y v w R2.al p.u q.u (leafX_ofR R2 l)⟩
theorem x_add (ha : DX X Wx a xa) (hb : DX X Wx b xb) : DX X Wx (.BinOp a .Add b pos) (xO2 xa xb gAdd) := x_bin op_add4 lf_add ha hb
theorem x_eq (hu : X.A.units + 64 < cLine) (ha : DX X Wx a xa) (hb : DX X Wx b xb) : DX X Wx (.Compare a [.Eq] [b] pos) (xO2 xa xb gEq) := x_cmp (op_eq3 hu) lf_eq (nomark _) ha hb
theorem x_ne (hu : X.A.units + 64 < cLine) (ha : DX X Wx a xa) (hb : DX X Wx b xb) : DX X Wx (.Compare a [.NotEq] [b] pos) (xO2 xa xb gNe) := x_cmp (op_ne3 hu) lf_ne (nomark _) ha hb
/-- one part -/
theorem part1x {W : Wd} {F : Fm} {ρ : Env'} {ω : Store} {L : Lc} {σ : L2.St} {H : Hp} {Q : VK} {k : D → Env' → Store → RE} (R : Rel W F ρ ω L σ H) (h : LeafX W Wx F σ Q ((xa F.n0 ρ ω).bind k)) {P : VK}
    (hP : ∀ v H1 L1 ρ1 ω1 x, Rel W F ρ1 ω1 L1 σ H1 → Rep W H1 (Fr L1 []) (obs L1) x v → LeafX W Wx F σ Q (k x ρ1 ω1) → P v H1) : tX W Wx xa σ H P :=
  ⟨F.at L H, ρ, ω, L, R.sub, leafX_bind R h fun x ρ1 ω1 v H1 L1 _ R1 q1 l1 => hP v H1 L1 ρ1 ω1 x (R.up R1) q1 l1⟩
@[simp] def xO1 (xa : MX) (g : D → Res D) : MX := fun n0 ρ ω => (xa n0 ρ ω).bind fun x ρ1 ω1 => ofR (g x) ρ1 ω1
theorem x_callB1 {id : String} {r : List V → Hp → VK → Prop} {g : D → Res D} (hc : CallR X (.builtin id) r) (hl : LfC (wd X) g r) (hg : Gl X x) (hm : X.mg x = none) (hv : bootBuiltins x = some (.builtin id)) (ha : DX X Wx a xa) (hn : x ≠ "__name__" := by decide) (hdb : (x == ("__debug__" : Str)) = false := by decide)
    (he : starEach [a] X.env = (false, eval a X.env) :: starEach [] X.env := by rfl) (hpl : (backTo pos (starEach [] X.env)).any (·.1) = false := by rfl) : DX X Wx (.Call (.Name x p) [a] [] pos) (xO1 xa g) :=
  ⟨PE.weak (pe_callB hc hg hm hv (pa_cons ha.pe pa_nil he) hn hdb he hpl) fun σ H Q ⟨F, ρ, ω, L, R, h⟩ => part1x (k := fun x ρ1 ω1 => ofR (g x) ρ1 ω1) R h fun v H1 L1 ρ1 ω1 x R1 q l => hl Wx L1 [] σ H1 Q x v R1.al q.u (leafX_ofR R1 l)⟩
theorem x_callT1 {T : String} {r : List V → Hp → VK → Prop} {g : D → Res D} (hc : CallR X (.type T) r) (hl : LfC (wd X) g r) (hg : Gl X x) (hm : X.mg x = none) (hv : bootBuiltins x = some (.type T)) (ha : DX X Wx a xa) (hn : x ≠ "__name__" := by decide) (hdb : (x == ("__debug__" : Str)) = false := by decide)
    (he : starEach [a] X.env = (false, eval a X.env) :: starEach [] X.env := by rfl) (hpl : (backTo pos (starEach [] X.env)).any (·.1) = false := by rfl) : DX X Wx (.Call (.Name x p) [a] [] pos) (xO1 xa g) :=
  ⟨PE.weak (pe_callTy hc hg hm hv (pa_cons ha.pe pa_nil he) hn hdb he hpl) fun σ H Q ⟨F, ρ, ω, L, R, h⟩ => part1x (k := fun x ρ1 ω1 => ofR (g x) ρ1 ω1) R h fun v H1 L1 ρ1 ω1 x R1 q l => hl Wx L1 [] σ H1 Q x v R1.al q.u (leafX_ofR R1 l)⟩
theorem x_len (hg : Gl X "len") (hm : X.mg "len" = none) (ha : DX X Wx a xa) (he : starEach [a] X.env = (false, eval a X.env) :: starEach [] X.env := by rfl) : DX X Wx (.Call (.Name "len" p) [a] [] pos) (xO1 xa gLen) := x_callB1 call_len4 lf_len hg hm boot_len ha (he := he)
theorem x_str (hg : Gl X "str") (hm : X.mg "str" = none) (ha : DX X Wx a xa) (he : starEach [a] X.env = (false, eval a X.env) :: starEach [] X.env := by rfl) : DX X Wx (.Call (.Name "str" p) [a] [] pos) (xO1 xa gStr) := x_callT1 call_str2 lf_str hg hm (by decide +kernel) ha (he := he)
theorem x_ix (hu : X.A.units + 64 < cLine) (ha : DX X Wx a xa) (hb : DX X Wx b xb) (hs : PlainIx b := by exact fun _ _ => rfl) : DX X Wx (.Subscript a b pos) (xO2 xa xb gIx) :=
  ⟨PE.weak (pe_ix (ix_any hu) ha.pe hb.pe hs) fun σ H Q ⟨F, ρ, ω, L, R, h⟩ => part2x (k := fun x y ρ2 ω2 => ofR (gIx x y) ρ2 ω2) R h fun v w H2 L2 ρ2 ω2 x y R2 p q l => lf_ix Wx L2 [] σ H2 Q x y v w R2.al p.u q.u (leafX_ofR R2 l)⟩
/-- a slice with written ends -/
@[simp] noncomputable def xSl (xa : MX) (lo hi : Env' → Store → Res (Option Int)) : MX := fun n0 ρ ω => (xa n0 ρ ω).bind fun x ρ1 ω1 => match lo ρ1 ω1 with
  | .ok l => (match hi ρ1 ω1 with
    | .ok h => ofR (gSl x l h) ρ1 ω1
    | _ => .stuck)
  | _ => .stuck
theorem x_slice {lo hi : Option Expr} {p2 : Pos} {ml mh : Env' → Store → Res (Option Int)} (ha : DX X Wx a xa) (hl : DO X Wx lo ml) (hh : DO X Wx hi mh) : DX X Wx (.Subscript a (.Slice lo hi none p2) pos) (xSl xa ml mh) := by
  refine ⟨PE.weak (pe_slice sl_any ha.pe hl.po hh.po) fun σ H Q ⟨F, ρ, ω, L, R, h⟩ => ?_⟩
  refine part1x (k := fun x ρ1 ω1 => match ml ρ1 ω1 with
    | .ok l => (match mh ρ1 ω1 with
      | .ok h => ofR (gSl x l h) ρ1 ω1
      | _ => .stuck)
    | _ => .stuck) R h fun v H1 L1 ρ1 ω1 x R1 q l => ?_
  refine ⟨F, ρ1, ω1, L1, R1, ?_⟩
  cases z1 : ml ρ1 ω1 with
  | stuck => rw [z1] at l; exact l
  | err x => rw [z1] at l; exact l.elim
  | ok o1 =>
    rw [z1] at l
    intro H2 s2
    refine ⟨F, ρ1, ω1, L1, R1.same s2, ?_⟩
    cases z2 : mh ρ1 ω1 with
    | stuck => rw [z2] at l; exact l
    | err x => rw [z2] at l; exact l.elim
    | ok o2 =>
      rw [z2] at l
      intro H3 s3
      exact lf_sl (R1.al.same (s2.trans s3)) ((q.u).same (s2.trans s3)) ((leafX_ofR R1 l).to (s2.trans s3) subid fun _ _ q => q)
end
/-! ### arguments -/
inductive RA where
  | stuck
  | ok (ds : List D) (ρ : Env') (ω : Store)
  | er (e : Er) (ω : Store)
abbrev MXA := Nat → Env' → Store → RA
def RA.bind (r : RA) (k : List D → Env' → Store → RE) : RE := match r with
  | .stuck => .stuck
  | .er e ω => .er e ω
  | .ok d ρ ω => k d ρ ω
@[simp] theorem RA.bind_ok {d : List D} {ρ : Env'} {ω : Store} {k : List D → Env' → Store → RE} : (RA.ok d ρ ω).bind k = k d ρ ω := rfl
@[simp] theorem RA.bind_er {e : Er} {ω : Store} {k : List D → Env' → Store → RE} : (RA.er e ω).bind k = .er e ω := rfl
@[simp] theorem RA.bind_stuck {k : List D → Env' → Store → RE} : RA.stuck.bind k = .stuck := rfl
def LeafXA (W : Wd) (Wx : WX) (F : Fm) (σ : L2.St) (Q : List V → Hp → Prop) : RA → Prop
  | .stuck => False
  | .ok d ρ ω => ∀ v H L, Rel W F ρ ω L σ H → Reps W H (Fr L []) (obs L) d v → Q v H
  | .er e ω => ∀ cls dd ρ H L, Rel W F ρ ω L σ H → Exc W H e cls dd → Wx cls dd σ H
def tXA (W : Wd) (Wx : WX) (m : MXA) : TA := fun σ H Q => ∃ F ρ ω L, Rel W F ρ ω L σ H ∧ LeafXA W Wx F σ Q (m F.n0 ρ ω)
structure DXA (X : Cx) (Wx : WX) (es : List Expr) (m : MXA) : Prop where
  pa : PA X es (tXA (wd X) Wx m)
@[simp] def demA (B : List Nat) (ds : List D) (ρ : Env') : Env' := if D.frees ds = true then ρ else DL.demote B ρ
@[simp] def xaP (B : List Nat) (m : MA) : MXA := fun _ ρ ω => match m ρ ω with
  | .stuck => .stuck
  | .err e => .er e ω
  | .ok ds => .ok ds (demA B ds ρ) ω
@[simp] def xaCons (xa : MX) (xr : MXA) : MXA := fun n0 ρ ω => match xa n0 ρ ω with
  | .stuck => .stuck
  | .er e ω => .er e ω
  | .ok x ρ1 ω1 => (match xr n0 ρ1 ω1 with
    | .stuck => .stuck
    | .er e ω => .er e ω
    | .ok xs ρ2 ω2 => .ok (x :: xs) ρ2 ω2)
section
variable {W : Wd} {F : Fm} {ρ ρ' : Env'} {ω ω' : Store} {L L' : Lc} {σ σ' : L2.St} {H H' : Hp}
theorem Rel.loosenA (R : Rel W F ρ ω L σ H) {B : List Nat} {d : List D} {v : List V} (r : Reps W H (Fr L B) (obs L) d v) : ∃ L', Rel W F (demA B d ρ) ω L' σ H ∧ Reps W H (Fr L' []) (obs L') d v := by
  unfold demA
  split
  · rename_i f
    exact ⟨L, R, D.frees_rep d v f r⟩
  · exact ⟨_, R.demote B, Reps.mono (kp_dem (W := W)) d v r⟩
end
section
variable {X : Cx} {Wx : WX} {pos p p' apos : Pos} {a b c e o : Expr} {es : List Expr} {Ba Bb B : List Nat} {ma mb m : M} {xa xb : MX} {xr : MXA} {x y f : Str} {mr : MA}
theorem xa_pure (h : DA X Wx B es mr) : DXA X Wx es (xaP B mr) := ⟨PA.weak h.pa fun σ H Q ⟨F, ρ, ω, L, R, h⟩ => ⟨F, ρ, ω, L, R, by
  unfold xaP at h
  cases z : mr ρ ω with
  | stuck => rw [z] at h; exact h
  | err e => rw [z] at h; exact fun c d H' s x => h c d ρ H' L (R.same s) x
  | ok d =>
    rw [z] at h
    intro v H' s q
    obtain ⟨L', R', q'⟩ := (R.same s).loosenA q
    exact h v H' L' R' q'⟩⟩
theorem xa_nil : DXA X Wx [] (xaP [] aNil) := xa_pure a_nil
theorem xa_cons (ha : DX X Wx a xa) (hr : DXA X Wx es xr) (hs : starEach (a :: es) X.env = (false, eval a X.env) :: starEach es X.env := by rfl) : DXA X Wx (a :: es) (xaCons xa xr) :=
  ⟨PA.weak (pa_cons ha.pe hr.pa hs) fun σ H Q ⟨F, ρ, ω, L, R, h⟩ => by
    refine ⟨F.at L H, ρ, ω, L, R.sub, ?_⟩
    show LeafX _ _ _ _ _ (xa F.n0 ρ ω)
    unfold xaCons at h
    cases z : xa F.n0 ρ ω with
    | stuck => rw [z] at h; exact h
    | er e ω1 => rw [z] at h; exact fun c dd ρ1 H1 L1 R1 x => h c dd ρ1 H1 L1 (R.up R1) x
    | ok x ρ1 ω1 =>
      rw [z] at h
      intro v H1 L1 R1 q1
      have R1' := R.up R1
      refine ⟨F.at L1 H1, ρ1, ω1, L1, R1'.sub, ?_⟩
      show LeafXA _ _ _ _ _ (xr F.n0 ρ1 ω1)
      replace h : LeafXA (wd X) Wx F σ Q (match xr F.n0 ρ1 ω1 with
        | .stuck => .stuck
        | .er e ω => .er e ω
        | .ok xs ρ2 ω2 => .ok (x :: xs) ρ2 ω2) := h
      cases z2 : xr F.n0 ρ1 ω1 with
      | stuck => rw [z2] at h; exact h
      | er e ω1 => rw [z2] at h; exact fun c dd ρ1 H1 L1 R2 x => h c dd ρ1 H1 L1 (R1'.up R2) x
      | ok xs ρ2 ω2 =>
        rw [z2] at h
        exact fun vs H2 L2 R2 q2 => h (v :: vs) H2 L2 (R1'.up R2) ⟨v, vs, rfl, Rep.mono (R2.aft.kp R1'.alive) _ _ q1, q2⟩⟩
theorem leafXA_bind {W : Wd} {F : Fm} {ρ : Env'} {ω : Store} {L : Lc} {σ : L2.St} {H : Hp} {r : RA} {k : List D → Env' → Store → RE} {Q : VK} (R : Rel W F ρ ω L σ H) (h : LeafX W Wx F σ Q (r.bind k)) {P : List V → Hp → Prop}
    (hP : ∀ d ρ' ω' v H' L', r = .ok d ρ' ω' → Rel W (F.at L H) ρ' ω' L' σ H' → Reps W H' (Fr L' []) (obs L') d v → LeafX W Wx F σ Q (k d ρ' ω') → P v H') : LeafXA W Wx (F.at L H) σ P r := by
  cases r with
  | stuck => exact h
  | er e ω => exact fun c dd ρ H L R' x => h c dd ρ H L (R.up R') x
  | ok d ρ' ω' => exact fun v H' L' R' q => hP d ρ' ω' v H' L' rfl R' q h
theorem partAx {W : Wd} {F : Fm} {ρ : Env'} {ω : Store} {L : Lc} {σ : L2.St} {H : Hp} {Q : VK} {k : List D → Env' → Store → RE} (R : Rel W F ρ ω L σ H) (h : LeafX W Wx F σ Q ((xr F.n0 ρ ω).bind k)) {P : List V → Hp → Prop}
    (hP : ∀ v H1 L1 ρ1 ω1 x, Rel W F ρ1 ω1 L1 σ H1 → Aft F.n0 L H L1 H1 → Reps W H1 (Fr L1 []) (obs L1) x v → LeafX W Wx F σ Q (k x ρ1 ω1) → P v H1) : tXA W Wx xr σ H P :=
  ⟨F.at L H, ρ, ω, L, R.sub, leafXA_bind R h fun x ρ1 ω1 v H1 L1 _ R1 q1 l1 => hP v H1 L1 ρ1 ω1 x (R.up R1) R1.aft q1 l1⟩
@[simp] def xTup (xr : MXA) : MX := fun n0 ρ ω => (xr n0 ρ ω).bind fun ds ρ1 ω1 => if ds.length ≤ 1000 then .ok (.tup ds) ρ1 ω1 else .stuck
theorem x_tup {k} (h : DXA X Wx es xr) : DX X Wx (.Tuple es k pos) (xTup xr) :=
  ⟨PE.weak (pe_tup h.pa) fun σ H Q ⟨F, ρ, ω, L, R, h⟩ => partAx (k := fun ds ρ1 ω1 => if ds.length ≤ 1000 then .ok (.tup ds) ρ1 ω1 else .stuck) R h fun vs H1 L1 ρ1 ω1 ds R1 _ q l => by
    split at l
    · rename_i hl
      refine ⟨by rw [q.len, sizeLine_eq]; omega, fun z hz => ?_⟩
      have sm := same_upd (o := .tup vs) hz
      exact l _ _ L1 (R1.same sm) ⟨z, vs, rfl, upd_same, q.same sm⟩
    · exact l.elim⟩
@[simp] def xLst (xr : MXA) : MX := fun n0 ρ ω => (xr n0 ρ ω).bind fun ds ρ1 ω1 => if ds.length ≤ 1000 then .ok (.lst ds) ρ1 ω1 else .stuck
theorem x_lst (h : DXA X Wx es xr) : DX X Wx (.List es pos) (xLst xr) :=
  ⟨PE.weak (pe_lst h.pa) fun σ H Q ⟨F, ρ, ω, L, R, h⟩ => partAx (k := fun ds ρ1 ω1 => if ds.length ≤ 1000 then .ok (.lst ds) ρ1 ω1 else .stuck) R h fun vs H1 L1 ρ1 ω1 ds R1 _ q l => by
    split at l
    · rename_i hl
      refine ⟨by rw [q.len, sizeLine_eq]; omega, fun z hz => ?_⟩
      have sm := same_upd (o := .lst vs) hz
      exact l _ _ L1 (R1.same sm) ⟨z, vs, rfl, R1.al.fr hz [], upd_same, q.same sm⟩
    · exact l.elim⟩
/-! ### calls -/
@[simp] def rrX (ρ : Env') : RR → RE
  | .stuck => .stuck
  | .ok d ω => .ok d ρ ω
  | .er e ω => .er e ω
/-- what the callee needs, what the caller meets -/
theorem leafC_of {W : Wd} {F : Fm} {ρ : Env'} {ω : Store} {L : Lc} {σ : L2.St} {H : Hp} {Q : VK} {r : RR} (R : Rel W F ρ ω L σ H) (h : LeafX W Wx F σ Q (rrX ρ r)) : LeafC W ⟨F.n0, lcC L [], H⟩ Q (fun c d H => Wx c d σ H) r := by
  cases r with
  | stuck => exact h
  | er e ω' => exact fun c d H' L' R' _ x => h c d ρ H' _ (R.back R') x
  | ok d ω' => exact fun v H' L' R' _ q => h v H' _ (R.back R') (Rep.mono (kp_back R R') d v q)
@[simp] def xCall (n : Nat) (f : Fu) (xr : MXA) : MX := fun n0 ρ ω => (xr n0 ρ ω).bind fun ds ρ1 ω1 => if ds.length = n then rrX ρ1 (f n0 ds ω1) else .stuck
theorem spF_of {W : Wd} {F : Fm} {ρ : Env'} {ω : Store} {L : Lc} {σ : L2.St} {H : Hp} {Q : VK} {n : Nat} {f : Fu} {ds : List D} {vs : List V} (R : Rel W F ρ ω L σ H) (q : Reps W H (Fr L []) (obs L) ds vs) (h : LeafX W Wx F σ Q (if ds.length = n then rrX ρ (f F.n0 ds ω) else .stuck)) : spF W n f vs H Q (fun c d H => Wx c d σ H) := by
  split at h
  case isFalse => exact h.elim
  rename_i hds
  exact ⟨by rw [q.len, hds], F.n0, lcC L [], ω, ds, R.into [] F.n0 (fun _ _ h => h), lcC_no, Reps.mono (kp_call0) ds vs q, leafC_of R h⟩
theorem x_call {g : Fu} {k fa : Nat} {f : Addr} {fd : FuncData} {ps : List Str} (F : FnOk X.prog X.w X.K X.mg X.base (L2.CX X.prog X.w) k f fd ps (spF (wd X) ps.length g)) (hr : Room k X.A) (hg : Gl X x) (hm : X.mg x = some (.ref f)) (hk : PySem.W.keepIn X.K (.ref f) = true) (hb : Binds X.K fd ps []) (tk : Takes X Wx)
    (ha : DXA X Wx (e :: es) xr) (hdb : (x == ("__debug__" : Str)) = false := by decide) (he : starEach (e :: es) X.env = (false, eval e X.env) :: starEach es X.env := by rfl) (hpl : (backTo pos (starEach es X.env)).any (·.1) = false := by rfl) :
    DX X Wx (.Call (.Name x p) (e :: es) [] pos) (xCall ps.length g xr) :=
  ⟨PE.weak (pe_callSD F hr hg hm hk hb .nil (passAt tk) ha.pa hdb he hpl) fun σ H Q ⟨F0, ρ, ω, L, R, h⟩ => by
    refine partAx (k := fun ds ρ1 ω1 => if ds.length = ps.length then rrX ρ1 (g F0.n0 ds ω1) else .stuck) R h fun vs H1 L1 ρ1 ω1 ds R1 _ q l => ?_
    rw [List.append_nil]
    exact spF_of R1 q l⟩
theorem x_callF {j k n : Nat} {g : Fu} (c : Fc X.prog X.w X.K X.mg X.base j x n g) (hr : Room k X.A) (tk : Takes X Wx) (ha : DXA X Wx (e :: es) xr) (hg : Gl X x := by rfl) (hj : j ≤ k := by decide) (hdb : (x == ("__debug__" : Str)) = false := by decide)
    (he : starEach (e :: es) X.env = (false, eval e X.env) :: starEach es X.env := by rfl) (hpl : (backTo pos (starEach es X.env)).any (·.1) = false := by rfl) : DX X Wx (.Call (.Name x p) (e :: es) [] pos) (xCall n g xr) := by
  obtain ⟨f, fd, ps, h1, h2, h3, rfl, h5⟩ := c.ex
  exact x_call (fa := 0) (h5.mono hj) hr hg h1 h2 h3 tk ha hdb he hpl
end
/-! ### tests -/
def LeafXB (W : Wd) (Wx : WX) (F : Fm) (σ : L2.St) (Q : Bool → Hp → Prop) : RE → Prop
  | .ok (.bl b) ρ ω => ∀ H L, Rel W F ρ ω L σ H → Q b H
  | .er e ω => ∀ cls dd ρ H L, Rel W F ρ ω L σ H → Exc W H e cls dd → Wx cls dd σ H
  | _ => False
def tXB (W : Wd) (Wx : WX) (m : MX) : TT := fun σ H Q => ∃ F ρ ω L, Rel W F ρ ω L σ H ∧ LeafXB W Wx F σ Q (m F.n0 ρ ω)
structure DXB (X : Cx) (Wx : WX) (e : Expr) (m : MX) : Prop where
  pt : PT X e (tXB (wd X) Wx m)
structure DXW (X : Cx) (Wx : WX) (e : Expr) (m : MX) : Prop where
  pw : PW X e (tXB (wd X) Wx m)
@[simp] def xbNot (xa : MX) : MX := fun n0 ρ ω => (xa n0 ρ ω).bind fun x ρ1 ω1 => match x with
  | .bl b => .ok (.bl (!b)) ρ1 ω1
  | _ => .stuck
@[simp] def xbAnd (xa xb : MX) : MX := fun n0 ρ ω => (xa n0 ρ ω).bind fun x ρ1 ω1 => match x with
  | .bl true => xb n0 ρ1 ω1
  | .bl false => .ok (.bl false) ρ1 ω1
  | _ => .stuck
@[simp] def xbOr (xa xb : MX) : MX := fun n0 ρ ω => (xa n0 ρ ω).bind fun x ρ1 ω1 => match x with
  | .bl true => .ok (.bl true) ρ1 ω1
  | .bl false => xb n0 ρ1 ω1
  | _ => .stuck
@[simp] def xbP (m : Env' → Store → Res Bool) : MX := fun _ ρ ω => match m ρ ω with
  | .stuck => .stuck
  | .err e => .er e ω
  | .ok b => .ok (.bl b) ρ ω
section
variable {X : Cx} {Wx : WX} {pos p p' apos : Pos} {a b c e o : Expr} {es rest : List Expr} {Ba Bb B : List Nat} {ma mb m : M} {xa xb : MX} {xr : MXA} {x y f : Str} {mr : MA}
theorem xb_pure {m : Env' → Store → Res Bool} (h : DB X Wx e m) : DXB X Wx e (xbP m) := ⟨PT.weak h.pt fun σ H Q ⟨F, ρ, ω, L, R, h⟩ => ⟨F, ρ, ω, L, R, by
  unfold xbP at h
  cases z : m ρ ω with
  | stuck => rw [z] at h; exact h
  | err e => rw [z] at h; exact fun c d H' s x => h c d ρ H' L (R.same s) x
  | ok d => rw [z] at h; exact fun H' s => h H' L (R.same s)⟩⟩
theorem leafXB_bind {W : Wd} {F : Fm} {ρ : Env'} {ω : Store} {L : Lc} {σ : L2.St} {H : Hp} {r : RE} {k : D → Env' → Store → RE} {Q : Bool → Hp → Prop} (R : Rel W F ρ ω L σ H) (h : LeafXB W Wx F σ Q (r.bind k)) (hk : ∀ d ρ ω, (∀ b, d ≠ .bl b) → k d ρ ω = .stuck) {P : Bool → Hp → Prop}
    (hP : ∀ b ρ' ω' H' L', r = .ok (.bl b) ρ' ω' → Rel W (F.at L H) ρ' ω' L' σ H' → LeafXB W Wx F σ Q (k (.bl b) ρ' ω') → P b H') : LeafXB W Wx (F.at L H) σ P r := by
  cases r with
  | stuck => exact h
  | er e ω => exact fun c dd ρ H L R' x => h c dd ρ H L (R.up R') x
  | ok d ρ' ω' =>
    cases d with
    | bl b => exact fun H' L' R' => hP b ρ' ω' H' L' rfl R' h
    | _ =>
      replace h : LeafXB W Wx F σ Q (k _ ρ' ω') := h
      rw [hk _ _ _ (fun b z => by cases z)] at h
      exact h.elim
theorem xb_val (ha : DX X Wx e xa) (he : ∀ whole, isTrue e X.env whole = (do let v ← whole; standAt e.pos; holding [v] (truthy v)) := by intro _; rfl) : DXB X Wx e xa :=
  ⟨PT.weak (pt_val ha.pe he) fun σ H Q ⟨F, ρ, ω, L, R, h⟩ => ⟨F, ρ, ω, L, R, by
    cases z : xa F.n0 ρ ω with
    | stuck => rw [z] at h; exact h
    | er e ω => rw [z] at h; exact h
    | ok d ρ' ω' =>
      rw [z] at h
      cases d with
      | bl k => exact fun v H' L' R' r => ⟨k, r, h H' L' R'⟩
      | _ => exact h.elim⟩⟩
theorem xb_not (ha : DXB X Wx a xa) : DXB X Wx (.UnaryOp .Not a pos) (xbNot xa) :=
  ⟨PT.weak (pt_not ha.pt) fun σ H Q ⟨F, ρ, ω, L, R, h⟩ => ⟨F.at L H, ρ, ω, L, R.sub, by
    refine leafXB_bind (k := fun x ρ1 ω1 => match x with
      | .bl b => .ok (.bl (!b)) ρ1 ω1
      | _ => .stuck) R h (fun d ρ ω hd => by cases d <;> first | rfl | exact absurd rfl (hd _)) fun b ρ' ω' H' L' _ R' l => l H' L' (R.up R')⟩⟩
theorem xw_and1 (ha : DXB X Wx a xa) : DXW X Wx (.BoolOp .And [a] pos) xa := ⟨pw_and1 ha.pt⟩
theorem xw_or1 (ha : DXB X Wx a xa) : DXW X Wx (.BoolOp .Or [a] pos) xa := ⟨pw_or1 ha.pt⟩
theorem DXW.db {e : Expr} {m : MX} (h : DXW X Wx e m) : DXB X Wx e m := ⟨h.pw.pt⟩
theorem PW.weakX {e : Expr} {t t' : TT} (h : PW X e t) (w : ∀ σ H Q, t' σ H Q → t σ H Q) : PW X e t' := ⟨fun wh pins s σ H Q I q => h.run wh pins s σ H Q I (w σ H Q q)⟩
theorem xw_and (ha : DXB X Wx a xa) (hb : DXW X Wx (.BoolOp .And (b :: rest) pos) xb) : DXW X Wx (.BoolOp .And (a :: b :: rest) pos) (xbAnd xa xb) :=
  ⟨PW.weakX (pw_and ha.pt hb.pw) fun σ H Q ⟨F, ρ, ω, L, R, h⟩ => ⟨F.at L H, ρ, ω, L, R.sub, by
    refine leafXB_bind (k := fun x ρ1 ω1 => match x with
      | .bl true => xb F.n0 ρ1 ω1
      | .bl false => .ok (.bl false) ρ1 ω1
      | _ => .stuck) R h (fun d ρ ω hd => by cases d <;> first | rfl | exact absurd rfl (hd _)) fun b ρ' ω' H' L' _ R' l => ?_
    cases b with
    | true => exact ⟨F, ρ', ω', L', R.up R', l⟩
    | false => exact l H' L' (R.up R')⟩⟩
theorem xw_or (ha : DXB X Wx a xa) (hb : DXW X Wx (.BoolOp .Or (b :: rest) pos) xb) : DXW X Wx (.BoolOp .Or (a :: b :: rest) pos) (xbOr xa xb) :=
  ⟨PW.weakX (pw_or ha.pt hb.pw) fun σ H Q ⟨F, ρ, ω, L, R, h⟩ => ⟨F.at L H, ρ, ω, L, R.sub, by
    refine leafXB_bind (k := fun x ρ1 ω1 => match x with
      | .bl true => .ok (.bl true) ρ1 ω1
      | .bl false => xb F.n0 ρ1 ω1
      | _ => .stuck) R h (fun d ρ ω hd => by cases d <;> first | rfl | exact absurd rfl (hd _)) fun b ρ' ω' H' L' _ R' l => ?_
    cases b with
    | true => exact l H' L' (R.up R')
    | false => exact ⟨F, ρ', ω', L', R.up R', l⟩⟩⟩
end
/-! ### statements over them -/
section
variable {X : Cx} {Wx : WX} {pos p p' apos : Pos} {a b c e o tg : Expr} {es : List Expr} {sts rest : List Stmt} {Ba Bb B : List Nat} {ma mb m : M} {xa xb : MX} {xr : MXA} {x y f : Str} {mr : MA} {i : Nat} {t u : T}
@[simp] def ofX (r : RE) (k : D → Env' → Store → RS) : RS := match r with
  | .stuck => .stuck
  | .er e ω => .er e ω
  | .ok d ρ ω => k d ρ ω
theorem leafSX_bind {W : Wd} {F : Fm} {ρ : Env'} {ω : Store} {L : Lc} {σ : L2.St} {H : Hp} {G : Ends} {r : RE} {k : D → Env' → Store → RS} (R : Rel W F ρ ω L σ H) (h : LeafS W Wx F G (ofX r k)) {P : VK}
    (hP : ∀ d ρ' ω' v H' L', r = .ok d ρ' ω' → Rel W F ρ' ω' L' σ H' → Rep W H' (Fr L' []) (obs L') d v → LeafS W Wx F G (k d ρ' ω') → P v H') : LeafX W Wx F σ P r := by
  cases r with
  | stuck => exact h
  | er e ω => exact fun c dd ρ H L R' x => h c dd ρ σ H L R' x
  | ok d ρ' ω' => exact fun v H' L' R' q => hP d ρ' ω' v H' L' rfl R' q h
@[simp] def sRetX (m : MX) : T := fun n0 ρ ω => ofX (m n0 ρ ω) fun d _ ω => .rt d ω
theorem sx_ret (he : DX X Wx e xa) : DS X Wx (.Return (some e) pos) (sRetX xa) :=
  ⟨PS.weak (ps_ret he.pe) fun G σ H ⟨F, ρ, ω, L, R, h⟩ => ⟨F, ρ, ω, L, R, leafSX_bind (k := fun d _ ω => .rt d ω) R h fun d ρ' ω' v H' L' _ R' q l => l v ρ' σ H' L' R' (Rep.mono (Kp.sub fun a u f _ => fr_frA f) d v q)⟩⟩
@[simp] def sDropX (m : MX) : T := fun n0 ρ ω => ofX (m n0 ρ ω) fun _ ρ ω => .nx ρ ω
theorem sx_expr (he : DX X Wx e xa) (hs : swapsWith e none pos.line X.env = pure false := by rfl) : DS X Wx (.Expr e pos) (sDropX xa) :=
  ⟨PS.weak (ps_expr he.pe hs) fun G σ H ⟨F, ρ, ω, L, R, h⟩ => ⟨F, ρ, ω, L, R, leafSX_bind (k := fun _ ρ ω => .nx ρ ω) R h fun d ρ' ω' v H' L' _ R' q l => l σ H' L' R'⟩⟩
@[simp] def sSetX (i : Nat) (m : MX) : T := fun n0 ρ ω => ofX (m n0 ρ ω) fun d ρ ω => if i < ρ.length then .nx (ρ.set i (.val d)) ω else .stuck
theorem sx_set (hN : X.N.Nodup) (hi : X.N[i]? = some x) (hx : Loc X.env.scope x) (he : DX X Wx e xa) (hs : swapsWith e (some (.Name x p)) pos.line X.env = pure false := by rfl) (hf : X.fn x = true ∨ X.env.scope.names.lookup x = some .local := by first | exact .inl rfl | exact .inr rfl | assumption) :
    DS X Wx (.Assign [.Name x p] e pos) (sSetX i xa) :=
  ⟨PS.weak (ps_set hN hi hx he.pe hs hf) fun G σ H ⟨F, ρ, ω, L, R, h⟩ => ⟨F, ρ, ω, L, R, leafSX_bind (k := fun d ρ ω => if i < ρ.length then .nx (ρ.set i (.val d)) ω else .stuck) R h fun d ρ' ω' v H' L' _ R' q l => by
    split at l
    · rename_i hl
      exact l _ H' _ (R'.putVal hl q)
    · exact l.elim⟩⟩
@[simp] def sUnpX (m : MX) (mt : D → Env' → Option Env') : T := fun n0 ρ ω => ofX (m n0 ρ ω) fun d ρ ω => match mt d ρ with
  | some ρ' => .nx ρ' ω
  | none => .stuck
theorem sx_unp {mt : D → Env' → Option Env'} (he : DX X Wx e xa) (hg : DG X tg mt) (hs : swapsWithSole [tg] e pos.line X.env = pure false := by rfl) (hw : swappedStores [tg] e X.env = pure none := by rfl) (h1 : (assignEach [tg] X.env).map (·.2) = [assign tg X.env] := by rfl) :
    DS X Wx (.Assign [tg] e pos) (sUnpX xa mt) :=
  ⟨PS.weak (ps_asg he.pe hg.pg hs hw h1) fun G σ H ⟨F, ρ, ω, L, R, h⟩ => ⟨F, ρ, ω, L, R, leafSX_bind (k := fun d ρ ω => match mt d ρ with
      | some ρ' => .nx ρ' ω
      | none => .stuck) R h fun d ρ' ω' v H' L' _ R' q l => by
    refine ⟨F, _, ω', L', d, R', q, ?_⟩
    cases z : mt d ρ' with
    | none => rw [z] at l; exact l.elim
    | some ρ2 => rw [z] at l; exact fun σ' L2 R2 => l σ' H' L2 R2⟩⟩
@[simp] def sIfX (m : MX) (t u : T) : T := fun n0 ρ ω => match m n0 ρ ω with
  | .er e ω => .er e ω
  | .ok (.bl true) ρ ω => t n0 ρ ω
  | .ok (.bl false) ρ ω => u n0 ρ ω
  | _ => .stuck
theorem sx_if (hc : DXB X Wx c xa) (ha : DSs X Wx sts t) (hb : DSs X Wx rest u) : DS X Wx (.If c sts rest pos) (sIfX xa t u) :=
  ⟨PS.weak (ps_if hc.pt ha.pss hb.pss) fun G σ H ⟨F, ρ, ω, L, R, h⟩ => ⟨F, ρ, ω, L, R, by
    unfold sIfX at h
    cases z : xa F.n0 ρ ω with
    | stuck => rw [z] at h; exact h
    | er e ω' => rw [z] at h; exact fun c d ρ' H' L' R' x => h c d ρ' σ H' L' R' x
    | ok d ρ' ω' =>
      rw [z] at h
      cases d with
      | bl k =>
        cases k with
        | true => exact fun H' L' R' => ⟨F, ρ', ω', L', R', h⟩
        | false => exact fun H' L' R' => ⟨F, ρ', ω', L', R', h⟩
      | _ => exact h.elim⟩⟩
end
end DL
namespace DL
open PySem PySem.Spec PySem.Calls PyProof.Rows L2

/-! ### s.upper() -/
section
variable {X : Cx} {Wx : WX} {pos p apos : Pos} {a b e : Expr} {Ba Bb B : List Nat} {ma mb m : M} {x : Str} {st : Stmt} {sts rest : List Stmt} {t u : T} {i : Nat}
@[simp] noncomputable def gUpper : D → Res D
  | .str s => @ite _ (s.length ≤ 1000000) (Classical.propDecidable _) (.ok (.str (Txt.upper s))) .stuck
  | _ => .stuck
theorem d_upper (ha : DU X Wx Ba a ma) (hbase : attributeBase a "upper" X.env (eval a X.env) = eval a X.env := by rfl) (hline : (apos.endLine == pos.line) = true := by rfl) :
    DP X Wx Ba (.Call (.Attribute a "upper" apos) [] [] pos) (m1 ma gUpper) :=
  ⟨PE.weak (pe_upper ha.pe hbase hline) fun σ H Q ⟨F, ρ, ω, L, R, h⟩ => part1 (k := gUpper) subid R h fun v H1 x s R1 q l => by
    unfold gUpper at l
    split at l
    · split at l
      · rename_i s hl
        exact ⟨⟨_, q⟩, _, q, rfl, by omega, l.ret rfl⟩
      · exact l.elim
    · exact l.elim⟩
/-! ### where a token is out -/
structure DPT (X : Cx) (Wx : WX) (B : List Nat) (e : Expr) (m : M) : Prop where
  pet : PET X e (tP (wd X) Wx B m)
structure DUT (X : Cx) (Wx : WX) (B : List Nat) (e : Expr) (m : M) : Prop where
  pet : PET X e (tU (wd X) Wx B m)
structure DST (X : Cx) (Wx : WX) (st : Stmt) (m : T) : Prop where
  pst : PST X st (tS (wd X) Wx m)
structure DSsT (X : Cx) (Wx : WX) (st : List Stmt) (m : T) : Prop where
  psst : PSsT X st (tS (wd X) Wx m)
theorem PET.weak {t t' : TE} (h : PET X e t) (w : ∀ σ H Q, t' σ H Q → t σ H Q) : PET X e t' := fun pins s σ H Q h0 I q => h pins s σ H Q h0 I (w σ H Q q)
theorem PST.weak {t t' : TS} (h : PST X st t) (w : ∀ D σ H, t' D σ H → t D σ H) : PST X st t' := fun pins s σ H D h0 I q => h pins s σ H D h0 I (w D σ H q)
theorem PSsT.weak {t t' : TS} (h : PSsT X sts t) (w : ∀ D σ H, t' D σ H → t D σ H) : PSsT X sts t' := fun pins s σ H D h0 I q => h pins s σ H D h0 I (w D σ H q)
theorem DS.tk (h : DS X Wx st t) : DST X Wx st t := ⟨PST.of h.ps⟩
theorem DSs.tk (h : DSs X Wx sts t) : DSsT X Wx sts t := ⟨PSsT.of h.pss⟩
theorem DU.tk (h : DU X Wx B e m) : DUT X Wx B e m := ⟨CwR.PET.of h.pe⟩
theorem DP.tk (h : DP X Wx B e m) : DPT X Wx B e m := ⟨CwR.PET.of h.pe⟩
theorem DPT.uu (h : DPT X Wx B e m) : DUT X Wx B e m := ⟨PET.weak h.pet fun σ H Q ⟨F, ρ, ω, L, R, h⟩ => ⟨F, ρ, ω, L, R, by
  cases z : m ρ ω with
  | stuck => rw [z] at h; exact h
  | err x => rw [z] at h; exact h
  | ok x => rw [z] at h; exact fun v H1 s r => h v H1 s r.u⟩⟩
theorem sT_cons (h1 : DST X Wx st t) (h2 : DSsT X Wx rest u) : DSsT X Wx (st :: rest) (sq t u) :=
  ⟨PSsT.weak (psst_cons h1.pst h2.psst) fun G σ H ⟨F, ρ, ω, L, R, h⟩ => ⟨F, ρ, ω, L, R, by
    unfold sq at h
    cases z : t F.n0 ρ ω with
    | stuck => rw [z] at h; exact h
    | nx ρ' ω' => rw [z] at h; exact fun σ' H' L' R' => ⟨F, ρ', ω', L', R', h⟩
    | rt d ω' => rw [z] at h; exact h
    | bk ρ' ω' => rw [z] at h; exact h
    | ct ρ' ω' => rw [z] at h; exact h
    | er e ω' => rw [z] at h; exact h⟩⟩
theorem dT_add (ha : DUT X Wx Ba a ma) (hb : DUT X Wx Bb b mb) : DPT X Wx (Ba ++ Bb) (.BinOp a .Add b pos) (m2 ma mb gAdd) :=
  ⟨PET.weak (CwR.pet_op op_add4 ha.pet hb.pet) fun σ H Q ⟨F, ρ, ω, L, R, h⟩ => part2 subl subr R h fun v w H1 x y s R1 p q l => lf_add Wx L _ σ H1 Q x y v w R1.al p q l⟩
noncomputable def gRepl (y z : Str) : D → Res D
  | .str s => @ite _ (s.length + (s.length + 1) * z.length ≤ 16777216) (Classical.propDecidable _) (.ok (.str (Txt.replace s y z))) .stuck
  | _ => .stuck
theorem dT_repl {y z : Str} {j k : Nat} {c0 c1 : Pos} (ha : DU X Wx Ba a ma) (hyz : (y == z) = false := by decide)
    (hst : starEach [.Constant (.str y) j c0, .Constant (.str z) k c1] X.env = [(false, eval (.Constant (.str y) j c0) X.env), (false, eval (.Constant (.str z) k c1) X.env)] := by rfl)
    (hbase : attributeBase a "replace" X.env (eval a X.env) = eval a X.env := by rfl) (hline : (apos.endLine == pos.line) = true := by rfl) :
    DPT X Wx Ba (.Call (.Attribute a "replace" apos) [.Constant (.str y) j c0, .Constant (.str z) k c1] [] pos) (m1 ma (gRepl y z)) :=
  ⟨PET.weak (CwR.pet_replC ha.pe hyz hst hbase hline) fun σ H Q ⟨F, ρ, ω, L, R, h⟩ => part1 (k := gRepl y z) subid R h fun v H1 x s R1 q l => by
    unfold gRepl at l
    split at l
    · split at l
      · rename_i s hl
        exact ⟨_, q, hl, l.ret rfl⟩
      · exact l.elim
    · exact l.elim⟩
theorem pet_bm {o : Expr} {es : List Expr} {T : String} {name : Str} {id : String} {r : V → List V → Hp → VK → Prop} {to : TE} {ta : TA} {cpos : Pos} (pa : PlainAttrs T) (slot : Slot T name id) (hty : typeOf (.builtin id) = pure (.type "method_descriptor")) (hm : MtR X id r) (ho : PE X o to) (ha : PAT X (e :: es) ta)
    (hbase : attributeBase o name X.env (eval o X.env) = eval o X.env := by rfl)
    (hfew : ((backTo cpos (starEach (e :: es) X.env)).all (fun x => !x.1) && (backToKw cpos (keywordEach [] X.env)).all (fun x => x.1.isSome)
      && decide ((e :: es).length + ([] : List Keyword).length + (if ([] : List Keyword).isEmpty then 0 else 1) < 30)) = true := by rfl)
    (hline : (apos.endLine == cpos.line) = true := by rfl) (hs : starEach (e :: es) X.env = (false, eval e X.env) :: starEach es X.env := by rfl) (hplain : (backTo cpos (starEach es X.env)).any (·.1) = false := by rfl) :
    PET X (.Call (.Attribute o name apos) (e :: es) [] cpos) (tBM X.K T r to ta) := by
  intro pins s σ H Q h0 I h
  refine wpAny_Call_method_late hbase hfew hline rfl (wpAny_mono (PySem.wpAny_toks (ho.run pins s σ H _ I h)) (fun v s1 q => ?_) fun _ _ z => z.2)
  obtain ⟨hk, x, H1, I1, r1, ty, q1⟩ := q
  obtain ⟨h1, h2⟩ := tyV_is I1 r1 ty
  refine ⟨T, id, pa, slot, hty, h1, h2, ?_⟩
  have hA := ha cpos pins s1 σ H1 _ (Nat.le_trans h0 hk) I1 q1
  rw [hs] at hA ⊢
  refine Calls.callWith_builtin (by show (false || (backTo cpos (starEach es X.env)).any (·.1)) = false; rw [hplain] <;> rfl) (Calls.evalArgs_plain ?_)
  exact thn hA fun us s2 ⟨vs, H2, I2, r2, q2⟩ => hm pins s2 σ H2 x vs v us Q I2 r1 r2 q2
theorem pst_expr {te : TE} (he : PET X e te) (hs : swapsWith e none pos.line X.env = pure false := by rfl) : PST X (.Expr e pos) (tDrop te) := by
  intro pins s σ H D h0 I h
  exact wpAny_Expr_any (thn (he pins s σ H _ h0 I h) fun v s1 ⟨x, H1, I1, r1, q1⟩ => ⟨σ, H1, I1, q1⟩) I.quiet hs
theorem sT_app {cpos : Pos} (i : Nat) (he : DPT X Wx B e m) (hN : X.N[i]? = some x := by rfl) (hv : Vis X.env.scope x := by first | exact Or.inl rfl | exact Or.inr (Or.inl rfl) | exact Or.inr (Or.inr rfl)) (hd : (x == ("__debug__" : Str)) = false := by decide)
    (hcd : (x == ("__classdict__" : Str)) = false := by decide)
    (hbase : attributeBase (.Name x p) "append" X.env (eval (.Name x p) X.env) = eval (.Name x p) X.env := by rfl)
    (hfew : ((backTo cpos (starEach (e :: []) X.env)).all (fun x => !x.1) && (backToKw cpos (keywordEach [] X.env)).all (fun x => x.1.isSome)
      && decide ((e :: ([] : List Expr)).length + ([] : List Keyword).length + (if ([] : List Keyword).isEmpty then 0 else 1) < 30)) = true := by rfl)
    (hline : (apos.endLine == cpos.line) = true := by rfl) (hs : starEach (e :: []) X.env = (false, eval e X.env) :: starEach [] X.env := by rfl) (hplain : (backTo cpos (starEach [] X.env)).any (·.1) = false := by rfl)
    (hsw : swapsWith (.Call (.Attribute (.Name x p) "append" apos) [e] [] cpos) none pos.line X.env = pure false := by rfl) :
    DST X Wx (.Expr (.Call (.Attribute (.Name x p) "append" apos) [e] [] cpos) pos) (sApp i B m) :=
  ⟨PST.weak (pst_expr (pet_bm PySem.F.plainAttrs_list PySem.F.slot_list_append PySem.F.type_list_append mt_append (pe_var (i := i) hN hv hd hcd) (pat_cons he.pet pat_nil hs) hbase hfew hline hs hplain) hsw) fun G σ H ⟨F, ρ, ω, L, R, h⟩ => by
    unfold sApp at h
    split at h
    · rename_i xs0 e0
      obtain ⟨a, e1, l, vs0, h1, _⟩ := R.sl i _ e0
      refine ⟨.ref a, slot_at e1, .inl ⟨rfl, vs0, SqL.of h1⟩, F, ρ, ω, L, R, leafS_bind (k := fun d => match (dem B d ρ)[i]? with
    | some (.own (.lst xs)) => @ite _ (xs.length < 1000000) (Classical.propDecidable _) (.nx ((dem B d ρ).set i (.own (.lst (xs ++ [d])))) ω) .stuck
    | _ => .stuck) R h fun d v H1 _ s R1 q lf => ?_⟩
      obtain ⟨L2, R2, q2⟩ := R1.loosen q
      split at lf
      · rename_i xs ei
        split at lf
        · rename_i hlen
          obtain ⟨b, f1, l2, vs, h2, r2⟩ := R2.sl i _ ei
          have eb : b = a := by
            have := f1.symm.trans e1
            exact V.ref.inj (Option.some.inj this)
          subst eb
          refine ⟨b, vs, v, rfl, rfl, h2, by rw [r2.len, sizeLine_eq]; omega, lf _ _ L2 (R2.pokeS l2 rfl f1 ⟨vs ++ [v], upd_same, ?_⟩)⟩
          exact (Reps.mono (kp_poke (B := []) R2 l2 (fun _ => .inr rfl) rfl) _ _ r2).app (Reps.one (Rep.mono (kp_poke (B := []) R2 l2 (fun _ => .inr rfl) rfl) _ _ q2))
        · exact lf.elim
      · exact lf.elim
    · exact h.elim⟩
/-- name = e.split(a written text): behind it a token is out -/
theorem s_splitT {c : Str} {j : Nat} {cp pn : Pos} (hN : X.N.Nodup) (hi : X.N[i]? = some x) (hx : Loc X.env.scope x) (ha : DU X Wx Ba a ma) (hr : DSsT X Wx rest u)
    (hs : starEach [.Constant (.str c) j cp] X.env = [(false, eval (.Constant (.str c) j cp) X.env)] := by rfl) (hbase : attributeBase a "split" X.env (eval a X.env) = eval a X.env := by rfl) (hline : (apos.endLine == pos.line) = true := by rfl)
    (hsw : swapsWith (.Call (.Attribute a "split" apos) [.Constant (.str c) j cp] [] pos) (some (.Name x pn)) p.line X.env = pure false := by rfl)
    (hf : X.fn x = true ∨ X.env.scope.names.lookup x = some .local := by first | exact .inl rfl | exact .inr rfl | assumption) :
    DSs X Wx (.Assign [.Name x pn] (.Call (.Attribute a "split" apos) [.Constant (.str c) j cp] [] pos) p :: rest) (sq (sSet i Ba (m1 ma fun x => gSplit x (.str c))) u) := by
  refine ⟨⟨fun pins s σ H G I ⟨F, ρ, ω, L, R, h⟩ => ?_⟩⟩
  refine wpAny_execs_cons (wpAny_Assign_Name ?_ hsw)
  refine PySem.Call_method1 hbase hs hline (thn (ha.pe.run pins s σ H (fun x H1 => ∃ a0, x = .str a0 ∧ (c.length == 0) = false ∧ a0.length + 2 ≤ sizeLine ∧ ∀ z, H1 z = none → ∃ ρ' L', Rel (wd X) F ρ' ω L' (σ.set i (some (.ref z))) (upd H1 z (.lst ((Txt.split a0 c).map V.str))) ∧ LeafS (wd X) Wx F G (u F.n0 ρ' ω)) I ?_) fun v s1 ⟨x', H1, I1, r1, a0, e1, hc, hl, fin⟩ => ?_)
  · refine ⟨F, ρ, ω, L, R, ?_⟩
    unfold sq sSet at h
    cases z : ma ρ ω with
    | stuck => simp only [m1, z, Res.bind, ofE] at h; exact h
    | err e =>
      simp only [m1, z, Res.bind, ofE] at h
      exact fun c' d H' s' x => h c' d ρ σ H' L (R.same s') x
    | ok d =>
      cases d with
      | str a0 =>
        intro v H' s' q
        have e1 : v = .str a0 := q
        subst e1
        have h : LeafS (wd X) Wx F G (match ofE (gSplit (.str a0) (.str c)) ω (fun d => if i < ρ.length then RS.nx ((dem Ba d ρ).set i (.val d)) ω else .stuck) with
          | .nx ρ' ω' => u F.n0 ρ' ω'
          | r => r) := by
            have h2 := h
            simp only [m1, z, Res.bind] at h2
            exact h2
        unfold gSplit at h
        dsimp only at h
        by_cases hh : (c.length == 0) = false ∧ a0.length + 2 ≤ 16777216
        · rw [@if_pos _ (Classical.propDecidable _) hh] at h
          refine ⟨a0, rfl, hh.1, by rw [sizeLine_eq]; exact hh.2, fun z hz => ?_⟩
          have h : LeafS (wd X) Wx F G (match (if i < ρ.length then RS.nx ((dem Ba (.lst ((Txt.split a0 c).map .str)) ρ).set i (.val (.lst ((Txt.split a0 c).map .str)))) ω else .stuck) with
            | .nx ρ' ω' => u F.n0 ρ' ω'
            | r => r) := h
          by_cases hi2 : i < ρ.length
          · rw [if_pos hi2] at h
            have R' := R.same s'
            have sm := same_upd (o := .lst ((Txt.split a0 c).map V.str)) hz
            obtain ⟨L2, R2⟩ := (R'.same sm).store (B := Ba) (d := .lst ((Txt.split a0 c).map .str)) (v := .ref z) hi2 ⟨z, _, rfl, R'.al.fr hz _, upd_same, Reps.ofStrs _⟩
            exact ⟨_, L2, R2, h⟩
          · rw [if_neg hi2] at h
            exact h.elim
        · rw [@if_neg _ (Classical.propDecidable _) hh] at h
          exact h.elim
      | _ =>
        simp only [m1, z, Res.bind, ofE, gSplit] at h
        exact h.elim
  · subst e1
    obtain ⟨t, rfl⟩ := _root_.id r1
    refine ⟨"str", _, PySem.F.plainAttrs_str, PySem.F.slot_str_split, PySem.F.type_str_split, typeIs_str _ _ _, (fun _ e => nomatch e), Calls.callWith_builtin rfl (Calls.evalArgs_plain (Calls.spliced_cons (Calls.Constant_str (Calls.spliced_nil ?_))))⟩
    have I2 : Inv X pins σ H1 { s1 with toks := s1.toks + 1 } := I1.tok _
    refine wpAny_mono (PySem.wpAny_toks (mt_split (X := X) pins { s1 with toks := s1.toks + 1 } σ H1 (.str a0) [.str c] (.str a0 t) [.str c s1.toks] (fun x H2 => ∃ z ρ' L', x = .ref z ∧ Rel (wd X) F ρ' ω L' (σ.set i (some (.ref z))) H2 ∧ LeafS (wd X) Wx F G (u F.n0 ρ' ω)) I2 ⟨t, rfl⟩ (.cons ⟨_, rfl⟩ .nil) ⟨a0, c, rfl, rfl, hc, hl, fun z hz => ?_⟩)) (fun v s2 q => ?_) fun _ _ z => z.2
    · obtain ⟨ρ', L', R2, h2⟩ := fin z hz
      exact ⟨z, ρ', L', rfl, R2, h2⟩
    · obtain ⟨hk, x2, H2, I3, r3, z, ρ', L', ez, R2, h2⟩ := q
      have hk : s1.toks + 1 ≤ s2.toks := hk
      refine wpAny_mono (PySem.wpAny_toks (store_ok (Q := fun _ s3 => Inv X pins (σ.set i (some x2)) H2 s3) I3 hN hi hx r3 (fun s3 I4 => I4) hf)) (fun _ s3 q => ?_) fun _ _ z => z.2
      obtain ⟨hk2, I4⟩ := q
      rw [ez] at I4
      exact hr.psst pins s3 _ H2 G (by omega) I4 ⟨F, ρ', ω, L', R2, h2⟩
/-! ### xs + ys, new -/
noncomputable def gCat : D → D → Res D
  | .lst xs, .lst ys => @ite _ (xs.length + ys.length ≤ 16777216) (Classical.propDecidable _) (.ok (.lst (xs ++ ys))) .stuck
  | _, _ => .stuck
theorem gCat_ok {a b : List D} (h : a.length + b.length ≤ 1000000) : gCat (.lst a) (.lst b) = .ok (.lst (a ++ b)) := @if_pos _ (Classical.propDecidable _) (by omega) _ _ _
theorem f_cat (ha : DU X Wx Ba a ma) (hb : DU X Wx Bb b mb) : DF X Wx (Ba ++ Bb) (.BinOp a .Add b pos) (m2 ma mb gCat) :=
  ⟨PE.weak (pe_op op_cat ha.pe hb.pe) fun σ H Q ⟨F, ρ, ω, L, R, h⟩ => by
    refine part1f (B := Ba ++ Bb) (k := fun x => (mb ρ ω).bind fun y => gCat x y) subl R h fun v H1 x s1 R1 p l1 => ?_
    refine part1f (B := Ba ++ Bb) (k := fun y => gCat x y) subr R1 l1 fun w H2 y s2 R2 q l => ?_
    have p := p.same s2
    unfold gCat at l
    split at l
    · split at l
      · rename_i hl
        obtain ⟨a1, vs, e1, h1, r1⟩ := p
        obtain ⟨b1, ws, e2, h2, r2⟩ := q
        refine ⟨a1, b1, vs, ws, e1, e2, h1, h2, by rw [sizeLine_eq, r1.len, r2.len]; exact hl, fun z hz => ?_⟩
        have sm := same_upd (o := .lst (vs ++ ws)) hz
        exact l.ret sm hz ⟨vs ++ ws, upd_same, (Reps.mono (kp_new hz) _ _ r1).app (Reps.mono (kp_new hz) _ _ r2)⟩
      · exact l.elim
    · exact l.elim⟩
end
end DL
namespace DL
open PySem PySem.Spec PySem.Calls PyProof.Rows L2

/-! ### stores to fields -/
def killS (f : Str) (r : List (Str × Sl)) : List (Str × Sl) := r.map fun e => if e.1 = f then (e.1, .no) else e
def putS (f : Str) (s : Sl) : List (Str × Sl) → List (Str × Sl)
  | [] => [(f, s)]
  | (g, x) :: r => if g = f then (g, s) :: killS f r else (g, x) :: putS f s r
def lcP (L : Lc) (p : Pl) (o : Option Addr) : Lc := fun q => if q = p then o else L q
theorem lcP_ne {L : Lc} {p q : Pl} {o : Option Addr} (h : q ≠ p) : lcP L p o q = L q := if_neg h
theorem lcP_eq {L : Lc} {p : Pl} {o : Option Addr} : lcP L p o p = o := if_pos rfl
section
variable {W : Wd} {F : Fm} {ρ ρ' : Env'} {ω ω' : Store} {L L' : Lc} {σ σ' : L2.St} {H H' : Hp} {n : Nat} {p : Pl} {ex : Bool} {f : Str}
theorem SltR.go (k : Kp H H' (Fr L []) (Fr L' []) (obs L) (obs L')) (hp : L' p = L p) (ne : ∀ a u, L p = some a → H a = some u → H' a = some u) : ∀ {x : Sl} {v : Option V}, SltR W H L p ex x v → SltR W H' L' p ex x v
  | .no, _, _ => trivial
  | .val d, v, ⟨x, e, h⟩ => ⟨x, e, Rep.mono k d x h⟩
  | .own d, v, ⟨a, e, l, h⟩ => ⟨a, e, hp.trans l, RepO.mono k (fun u h => ⟨fun q => ne a _ l (h.1 q), by
      rcases h.2 with h | ⟨o, h⟩
      · exact .inl (ne a _ l h)
      · exact .inr ⟨o, ne a _ l h⟩⟩) (fun xs h => ne a _ l h) h⟩
theorem FsR.go (k : Kp H H' (Fr L []) (Fr L' []) (obs L) (obs L')) (hp : ∀ g, L' (.fd n g) = L (.fd n g)) (ne : ∀ g a u, L (.fd n g) = some a → H a = some u → H' a = some u) : ∀ {fs : List (Str × Sl)} {vs : List (Str × V)}, FsR W H L n ex fs vs → FsR W H' L' n ex fs vs
  | [], _, h => h
  | (f, x) :: r, _, ⟨v, t, e, h, q⟩ => ⟨v, t, e, SltR.go k (hp f) (ne f) h, FsR.go k hp ne q⟩
theorem FsR.kill (k : Kp H H' (Fr L []) (Fr L' []) (obs L) (obs L')) (hp : ∀ g, g ≠ f → L' (.fd n g) = L (.fd n g)) (ne : ∀ g a u, g ≠ f → L (.fd n g) = some a → H a = some u → H' a = some u) : ∀ {fs : List (Str × Sl)} {vs : List (Str × V)}, FsR W H L n ex fs vs → FsR W H' L' n ex (killS f fs) vs
  | [], _, h => h
  | (g, x) :: r, _, ⟨v, t, e, h, q⟩ => by
    have ih := FsR.kill k hp ne q
    show FsR W H' L' n ex ((if g = f then (g, .no) else (g, x)) :: killS f r) _
    by_cases z : g = f
    · rw [if_pos z]
      exact ⟨v, t, e, trivial, ih⟩
    · rw [if_neg z]
      exact ⟨v, t, e, SltR.go k (hp g z) (ne g · · z) h, ih⟩
/-- a field gets a value: the list of values too -/
theorem FsR.put {y : V} {x : Sl} (k : Kp H H' (Fr L []) (Fr L' []) (obs L) (obs L')) (hp : ∀ g, g ≠ f → L' (.fd n g) = L (.fd n g)) (ne : ∀ g a u, g ≠ f → L (.fd n g) = some a → H a = some u → H' a = some u) (hx : SltR W H' L' (.fd n f) ex x (some y)) :
    ∀ {fs : List (Str × Sl)} {vs : List (Str × V)}, FsR W H L n ex fs vs → FsR W H' L' n ex (putS f x fs) (putF f y vs)
  | [], _, h => by
    rw [show _ = [] from h]
    exact ⟨y, [], rfl, hx, rfl⟩
  | (g, s) :: r, _, ⟨v, t, e, h, q⟩ => by
    subst e
    show FsR W H' L' n ex (if g = f then (g, x) :: killS f r else (g, s) :: putS f x r) (if g = f then (g, y) :: t else (g, v) :: putF f y t)
    by_cases z : g = f
    · rw [if_pos z, if_pos z]
      refine ⟨y, t, rfl, ?_, FsR.kill k hp ne q⟩
      rw [z]; exact hx
    · rw [if_neg z, if_neg z]
      exact ⟨v, _, rfl, SltR.go k (hp g z) (ne g · · z) h, FsR.put k hp ne hx q⟩
/-- a field's own container changes: the values stay -/
theorem FsR.poke {b : Addr} {d : D} (k : Kp H H' (Fr L []) (Fr L []) (obs L) (obs L)) (ne : ∀ g a u, g ≠ f → L (.fd n g) = some a → H a = some u → H' a = some u) (hl : L (.fd n f) = some b) (hd : RepO W H' (Fr L []) (obs L) ex d b) :
    ∀ {fs : List (Str × Sl)} {vs : List (Str × V)} {d0 : D}, FsR W H L n ex fs vs → fs.lookup f = some (.own d0) → FsR W H' L n ex (putS f (.own d) fs) vs
  | [], _, _, _, e => by cases e
  | (g, s) :: r, _, d0, ⟨v, t, e, h, q⟩, el => by
    subst e
    show FsR W H' L n ex (if g = f then (g, .own d) :: killS f r else (g, s) :: putS f (.own d) r) _
    by_cases z : g = f
    · rw [if_pos z]
      subst z
      simp only [List.lookup, beq_self_eq_true] at el
      cases el
      obtain ⟨a, e1, e2, _⟩ := h
      have : a = b := Option.some.inj (e2.symm.trans hl)
      subst this
      exact ⟨v, t, rfl, ⟨a, e1, hl, hd⟩, FsR.kill k (fun _ _ => rfl) ne q⟩
    · rw [if_neg z]
      have z' : (f == g) = false := by simpa using fun e : f = g => z e.symm
      simp only [List.lookup, z'] at el
      exact ⟨v, t, rfl, SltR.go k rfl (ne g · · z) h, FsR.poke k ne hl hd q el⟩
/-- a field stored: fresh and owned, or a value -/
theorem Rel.putFd {k : Nat} {o : Ob} {x : Sl} {y : V} {pa : Addr} {C dx : Addr} {fs : List (Str × V)} {oa : Option Addr} (R : Rel W F ρ ω L σ H) (s : Same H H') (hk : F.n0 ≤ k) (ho : ω[k]? = some o) (hL : L (.ob k) = some pa) (hm : W.mg o.cls = some (.ref C)) (hI : H pa = some (.ins C dx fs))
    (hf : FsR W H L k (decide (F.n0 ≤ k)) o.fs fs) (kk : Kp H H' (Fr L []) (Fr (lcP L (.fd k f) oa) []) (obs L) (obs (lcP L (.fd k f) oa))) (hoa : ∀ a, oa = some a → H a = none ∧ ∃ u, H' a = some u ∧ isC u = true)
    (hx : SltR W H' (lcP L (.fd k f) oa) (.fd k f) true x (some y)) : Rel W F ρ (ω.set k ⟨o.cls, putS f x o.fs⟩) (lcP L (.fd k f) oa) σ (upd H' pa (.ins C dx (putF f y fs))) := by
  have hk' : k < ω.length := (List.getElem?_eq_some_iff.mp ho).1
  have old : ∀ {q : Pl} {a : Addr}, q ≠ .fd k f → lcP L (.fd k f) oa q = some a → L q = some a := fun {q a} nq e => by rwa [lcP_ne nq] at e
  have apart : ∀ {q : Pl} {a : Addr}, q ≠ .fd k f → lcP L (.fd k f) oa q = some a → oa ≠ some a := fun {q a} nq e z => by
    obtain ⟨u, h, _⟩ := R.alive q a (old nq e)
    rw [(hoa a z).1] at h; cases h
  have hpa : ∀ {q : Pl} {a : Addr}, q ≠ .fd k f → q ≠ .ob k → L q = some a → a ≠ pa := fun {q a} _ nq e z => nq (R.inj q (.ob k) a e (by rw [z]; exact hL))
  have hpo : ∀ a, oa = some a → a ≠ pa := fun a e z => by
    have := (hoa a e).1
    rw [z, hI] at this; cases this
  have hL' : lcP L (.fd k f) oa (.ob k) = some pa := by rw [lcP_ne (fun z => by cases z)]; exact hL
  -- from H' on
  have k2 : Kp H' (upd H' pa (.ins C dx (putF f y fs))) (Fr (lcP L (.fd k f) oa) []) (Fr (lcP L (.fd k f) oa) []) (obs (lcP L (.fd k f) oa)) (obs (lcP L (.fd k f) oa)) :=
    ⟨fun _ _ f _ => f, fun a u f h => by
      have : a ≠ pa := fun z => by
        obtain ⟨i, m, _⟩ := f (.ob k) (by rw [z]; exact hL')
        cases m
      rw [upd_ne this]; exact h, fun a xs h => by
      have : a ≠ pa := fun z => by
        have q := s _ _ hI
        rw [z] at h
        rw [h] at q; cases q
      rw [upd_ne this]; exact h, fun _ _ h => h⟩
  have k3 := kk.trans k2
  have hx2 : SltR W (upd H' pa (.ins C dx (putF f y fs))) (lcP L (.fd k f) oa) (.fd k f) (decide (F.n0 ≤ k)) x (some y) := by
    rw [decide_eq_true hk]
    refine SltR.go k2 rfl (fun a u e h => ?_) hx
    rw [lcP_eq] at e
    rw [upd_ne (hpo a e)]; exact h
  have keepA : ∀ {q : Pl} {a : Addr} {u : HO}, q ≠ .fd k f → q ≠ .ob k → L q = some a → H a = some u → upd H' pa (.ins C dx (putF f y fs)) a = some u := fun {q a u} n1 n2 e h => by
    rw [upd_ne (hpa n1 n2 e)]; exact s _ _ h
  refine ⟨fun q r a e1 e2 => ?_, fun q a e => ?_, ⟨fun a u h hp => ?_, fun i a e => ?_, fun q a m e => ?_, fun q m => ?_, fun m a h => ?_, fun a u h => ?_⟩, fun a b e => R.fgs a b (old (fun z => by cases z) e), R.len, fun i t e => ?_, fun m t e => ?_, fun m h => ?_⟩
  · by_cases h1 : q = .fd k f
    · by_cases h2 : r = .fd k f
      · rw [h1, h2]
      · subst h1
        rw [lcP_eq] at e1
        exact absurd e1 (apart h2 e2)
    · by_cases h2 : r = .fd k f
      · subst h2
        rw [lcP_eq] at e2
        exact absurd e2 (apart h1 e1)
      · exact R.inj q r a (old h1 e1) (old h2 e2)
  · by_cases h1 : q = .fd k f
    · subst h1
      rw [lcP_eq] at e
      obtain ⟨_, u, h, c⟩ := hoa a e
      exact ⟨u, by rw [upd_ne (hpo a e)]; exact h, c⟩
    · by_cases h2 : q = .ob k
      · subst h2
        have e := old h1 e
        have : a = pa := Option.some.inj (e.symm.trans hL)
        subst this
        exact ⟨_, upd_same, rfl⟩
      · obtain ⟨u, h, c⟩ := R.alive q a (old h1 e)
        exact ⟨u, keepA h1 h2 (old h1 e) h, c⟩
  · have h1 := R.aft.keep a u h hp
    have : a ≠ pa := fun z => by
      subst z
      rcases R.aft.newM (.ob k) a hk hL with ⟨q, mq, eq⟩ | z
      · exact hp q eq mq.mt
      · rw [h] at z; cases z
    rw [upd_ne this]; exact s _ _ h1
  · exact R.aft.newS i a (old (fun z => by cases z) e)
  · by_cases h1 : q = .fd k f
    · subst h1
      rw [lcP_eq] at e
      exact .inr (R.aft.fresh (hoa a e).1)
    · exact R.aft.newM q a m (old h1 e)
  · rw [lcP_ne (fun z => m (by rw [z]; exact hk))]
    exact R.aft.prot q m
  · rw [lcP_ne (fun z => by cases z)]
    exact R.aft.obk m a h
  · obtain ⟨v, q⟩ := R.aft.there a u h
    by_cases z : a = pa
    · exact ⟨_, by rw [z, upd_same]⟩
    · exact ⟨v, by rw [upd_ne z]; exact s _ _ q⟩
  · refine SltR.go k3 (lcP_ne (fun z => by cases z)) (fun a u e h => keepA (fun z => by cases z) (fun z => by cases z) e h) (R.sl i t e)
  · by_cases z : m = k
    · subst z
      rw [List.getElem?_set_self hk'] at e
      cases e
      refine ⟨pa, C, dx, _, hL', hm, upd_same, ?_⟩
      exact FsR.put k3 (fun g ng => lcP_ne (fun z => ng (by cases z; rfl))) (fun g a u ng e h => keepA (fun z => ng (by cases z; rfl)) (fun z => by cases z) e h) hx2 hf
    · rw [List.getElem?_set_ne (Ne.symm z)] at e
      obtain ⟨p1, C1, dx1, fs1, e1, e2, e3, q⟩ := (R.st m t e).at_
      refine ⟨p1, C1, dx1, fs1, by rw [lcP_ne (fun z => by cases z)]; exact e1, e2, keepA (fun z => by cases z) (fun y => z (by cases y; rfl)) e1 e3, ?_⟩
      exact FsR.go k3 (fun g => lcP_ne (fun y => z (by cases y; rfl))) (fun g a u e h => keepA (fun y => z (by cases y; rfl)) (fun y => by cases y) e h) q
  · rw [List.length_set] at h
    have hm2 : m ≠ k := fun z => by omega
    exact ⟨by rw [lcP_ne (fun z => by cases z)]; exact (R.dom m h).1, fun g => by rw [lcP_ne (fun z => hm2 (by cases z; rfl))]; exact (R.dom m h).2 g⟩
/-- a field's own container changed -/
theorem Rel.pokeF {k : Nat} {o : Ob} {b : Addr} {u : HO} {d d0 : D} (R : Rel W F ρ ω L σ H) (hk : F.n0 ≤ k) (ho : ω[k]? = some o) (hl : L (.fd k f) = some b) (el : o.fs.lookup f = some (.own d0)) (hu : isC u = true) (hd : RepO W (upd H b u) (Fr L []) (obs L) true d b) :
    Rel W F ρ (ω.set k ⟨o.cls, putS f (.own d) o.fs⟩) L σ (upd H b u) where
  inj := R.inj
  alive := alive_poke R hl hu
  aft := aft_poke R hl hk
  fgs := R.fgs
  len := R.len
  sl := fun i t e => SltR.chg (kp_poke (B := []) R hl (fun _ => .inr rfl) hu) (fun a q => upd_ne (ne_poke R hl (fun z => by cases z) q)) (R.sl i t e)
  st := fun m t e => by
    have kp := kp_poke (B := []) R hl (fun _ => .inr rfl) hu
    by_cases z : m = k
    · subst z
      have hk' : m < ω.length := (List.getElem?_eq_some_iff.mp ho).1
      rw [List.getElem?_set_self hk'] at e
      cases e
      obtain ⟨p1, C1, dx1, fs1, e1, e2, e3, q⟩ := (R.st m o ho).at_
      refine ⟨p1, C1, dx1, fs1, e1, e2, by rw [upd_ne (ne_poke R hl (fun z => by cases z) e1)]; exact e3, ?_⟩
      refine FsR.poke kp (fun g a v ng e h => by rw [upd_ne (ne_poke R hl (fun z => ng (by cases z; rfl)) e)]; exact h) hl ?_ q el
      rw [decide_eq_true hk]; exact hd
    · rw [List.getElem?_set_ne (Ne.symm z)] at e
      obtain ⟨p1, C1, dx1, fs1, e1, e2, e3, q⟩ := (R.st m t e).at_
      exact ⟨p1, C1, dx1, fs1, e1, e2, by rw [upd_ne (ne_poke R hl (fun y => by cases y) e1)]; exact e3, FsR.go kp (fun _ => rfl) (fun g a v e h => by rw [upd_ne (ne_poke R hl (fun y => z (by cases y; rfl)) e)]; exact h) q⟩
  dom := fun m h => R.dom m (by rw [List.length_set] at h; exact h)
/-- a new object -/
theorem Rel.newOb {c : Str} {C dx x : Addr} (R : Rel W F ρ ω L σ H) (hn : F.n0 ≤ ω.length) (hx : H x = none) (hdx : H dx = none) (ne : dx ≠ x) (hm : W.mg c = some (.ref C)) :
    Rel W F ρ (ω ++ [⟨c, []⟩]) (lcP L (.ob ω.length) (some x)) σ (upd (upd H dx (.own x)) x (.ins C dx [])) := by
  have s1 : Same H (upd H dx (.own x)) := same_upd hdx
  have hx1 : upd H dx (.own x) x = none := by rw [upd_ne (Ne.symm ne)]; exact hx
  have s : Same H (upd (upd H dx (.own x)) x (.ins C dx [])) := s1.trans (same_upd hx1)
  have old : ∀ {q : Pl} {a : Addr}, q ≠ .ob ω.length → lcP L (.ob ω.length) (some x) q = some a → L q = some a := fun {q a} nq e => by rwa [lcP_ne nq] at e
  have apart : ∀ {q : Pl} {a : Addr}, L q = some a → a ≠ x := fun {q a} e z => by
    obtain ⟨u, h, _⟩ := R.alive q a e
    rw [z, hx] at h; cases h
  have kk : Kp H (upd (upd H dx (.own x)) x (.ins C dx [])) (Fr L []) (Fr (lcP L (.ob ω.length) (some x)) []) (obs L) (obs (lcP L (.ob ω.length) (some x))) :=
    ⟨fun a u f h p e => by
      by_cases z : p = .ob ω.length
      · subst z
        rw [lcP_eq] at e
        cases e
        rw [hx] at h; cases h
      · exact f p (old z e), fun a u _ h => s a u h, fun a xs h => s a _ h, fun m a h => by
      have h : L (.ob m) = some a := h
      show lcP L (.ob ω.length) (some x) (.ob m) = some a
      by_cases z : m = ω.length
      · rw [z, (R.dom _ (Nat.le_refl _)).1] at h; cases h
      · rw [lcP_ne (fun y => z (by cases y; rfl))]; exact h⟩
  refine ⟨fun q r a e1 e2 => ?_, fun q a e => ?_, ⟨fun a u h hp => s a u (R.aft.keep a u h hp), fun i a e => R.aft.newS i a (old (fun z => by cases z) e), fun q a m e => ?_, fun q m => ?_, fun m a h => ?_, fun a u h => ?_⟩, fun a b e => R.fgs a b (old (fun z => by cases z) e), R.len, fun i t e => SltR.move kk s (lcP_ne (fun z => by cases z)) (R.sl i t e), fun m t e => ?_, fun m h => ?_⟩
  · by_cases h1 : q = .ob ω.length
    · by_cases h2 : r = .ob ω.length
      · rw [h1, h2]
      · subst h1
        rw [lcP_eq] at e1
        cases e1
        exact absurd rfl (apart (old h2 e2))
    · by_cases h2 : r = .ob ω.length
      · subst h2
        rw [lcP_eq] at e2
        cases e2
        exact absurd rfl (apart (old h1 e1))
      · exact R.inj q r a (old h1 e1) (old h2 e2)
  · by_cases h1 : q = .ob ω.length
    · subst h1
      rw [lcP_eq] at e
      cases e
      exact ⟨_, upd_same, rfl⟩
    · obtain ⟨u, h, c⟩ := R.alive q a (old h1 e)
      exact ⟨u, s a u h, c⟩
  · by_cases h1 : q = .ob ω.length
    · subst h1
      rw [lcP_eq] at e
      cases e
      exact .inr (R.aft.fresh hx)
    · exact R.aft.newM q a m (old h1 e)
  · rw [lcP_ne (fun z => m (by rw [z]; exact hn))]
    exact R.aft.prot q m
  · have h1 := R.aft.obk m a h
    by_cases z : m = ω.length
    · rw [z, (R.dom _ (Nat.le_refl _)).1] at h1; cases h1
    · rw [lcP_ne (fun y => z (by cases y; rfl))]; exact h1
  · obtain ⟨v, q⟩ := R.aft.there a u h
    exact ⟨v, s a v q⟩
  · by_cases z : m < ω.length
    · rw [List.getElem?_append_left z] at e
      exact ObR.move kk s (fun g => lcP_ne (fun y => by cases y)) (R.st m t e)
    · have hm' : m = ω.length := by
        have := (List.getElem?_eq_some_iff.mp e).1
        rw [List.length_append, List.length_singleton] at this
        omega
      subst hm'
      rw [List.getElem?_append_right (Nat.le_refl _), Nat.sub_self] at e
      cases e
      exact ⟨x, C, dx, [], lcP_eq, hm, upd_same, rfl⟩
  · rw [List.length_append, List.length_singleton] at h
    exact ⟨by rw [lcP_ne (fun z => by cases z; omega)]; exact (R.dom m (by omega)).1, fun g => by rw [lcP_ne (fun z => by cases z)]; exact (R.dom m (by omega)).2 g⟩
end
/-! ### facts of classes -/
structure Mc (P : Program) (w : World) (K : PySem.W.Frag) (mg : Str → Option Value) (base : Heap) (k : Nat) (c m : Str) (n : Nat) (g : Fu) : Prop where
  ex : ∃ C f fd ps, mg c = some (.ref C) ∧ Cls K C ∧ Meth K C m f ∧ Binds K fd ps [] ∧ ps.length = n ∧ FnOk P w K mg base (L2.CX P w) k f fd ps (spF ⟨K, mg⟩ n g)
structure Kc (P : Program) (w : World) (K : PySem.W.Frag) (mg : Str → Option Value) (base : Heap) (k : Nat) (c : Str) (n : Nat) (g : Fu) : Prop where
  ex : ∃ C f fd ps, mg c = some (.ref C) ∧ Mk K C f ∧ Binds K fd ps [] ∧ ps.length = n ∧ FnOk P w K mg base (L2.CX P w) k f fd ps (spF ⟨K, mg⟩ n g)
section
variable {X : Cx} {Wx : WX} {pos p p' apos pos' : Pos} {a b c e o kx : Expr} {es : List Expr} {Ba Bb Bo Bk B : List Nat} {ma mb m mo mk : M} {mr : MA} {xa xb xo : MX} {xr : MXA} {x y f cl mt : Str} {i j k n : Nat} {g : Fu}
def tMethSD (C : Addr) (m : Str) (sp : Sp) (dvs : List V) (E : L2.St → XK) (ta : TE) (t : TA) : TE := fun σ H Q => ta σ H fun x H1 => ∃ a dx fs, x = .ref a ∧ H1 a = some (.ins C dx fs) ∧ fs.lookup m = none ∧
  t σ H1 fun vs H2 => sp (x :: (vs ++ dvs)) H2 Q (E σ)
theorem pe_methSD {CX : CXT} {C fa : Addr} {fd : FuncData} {ps : List Str} {sp : Sp} {dvs : List V} {ds : List Value} {E : L2.St → XK} {ta : TE} {t : TA} {m : Str} {k : Nat} {pl : Sem Bool} (he : PE X o ta) (c : Cls X.K C) (hm : Meth X.K C m fa) (F : FnOk X.prog X.w X.K X.mg X.base CX k fa fd ps sp) (hr : Room k X.A) (hb : Binds X.K fd ps ds) (hd : Vals dvs ds) (hx : ∀ σ, PassesAt CX X σ (E σ)) (ha : PA X (e :: es) t)
    (hst : starEach (e :: es) X.env = (false, eval e X.env) :: starEach es X.env := by rfl) (hpl : (backTo pos (starEach es X.env)).any (·.1) = false := by rfl)
    (ht : eval (.Call (.Attribute o m apos) (e :: es) [] pos) X.env = (do
      let ov ← eval o X.env
      standAt apos.atName
      let (f, first) ← holding [ov] (getMethod ov m pl)
      callWith pos f first (backTo pos (starEach (e :: es) X.env)) (backToKw pos (keywordEach [] X.env))) := by rfl) :
    PE X (.Call (.Attribute o m apos) (e :: es) [] pos) (tMethSD C m sp dvs E ta t) := by
  refine ⟨fun pins s σ H Q I h => ?_⟩
  refine PySem.W.methodCall_KW (pl := pl) (thn (he.run pins s σ H _ I h) fun u s1 ⟨x, H1, I1, rx, a, dx, fs, ex, ea, l, q⟩ => ?_) ht
  subst ex
  obtain rfl : u = Value.ref a := rx
  refine getmeth_ok I1 ea c hm l ?_
  refine PySem.W.callWith_K (first := [.ref a]) (h₀ := X.base) I.ok.mod.kin hm.kp (thn (ha.run pos pins s1 σ H1 _ I1 q) fun us s2 ⟨vs, H2, I2, r, q2⟩ => ⟨I2.kIn, ?_⟩) hst hpl
  exact run_fnSD (us := .ref a :: us) (vs := .ref a :: vs) F hr hb hd (hx σ) I2 (.cons rfl r) q2
theorem pe_methSD0 {CX : CXT} {C fa : Addr} {fd : FuncData} {ps : List Str} {sp : Sp} {dvs : List V} {ds : List Value} {E : L2.St → XK} {ta : TE} {m : Str} {k : Nat} {pl : Sem Bool} (he : PE X o ta) (c : Cls X.K C) (hm : Meth X.K C m fa) (F : FnOk X.prog X.w X.K X.mg X.base CX k fa fd ps sp) (hr : Room k X.A) (hb : Binds X.K fd ps ds) (hd : Vals dvs ds) (hx : ∀ σ, PassesAt CX X σ (E σ))
    (ht : eval (.Call (.Attribute o m apos) [] [] pos) X.env = (do
      let ov ← eval o X.env
      standAt apos.atName
      let (f, first) ← holding [ov] (getMethod ov m pl)
      callWith pos f first (backTo pos (starEach [] X.env)) (backToKw pos (keywordEach [] X.env))) := by rfl) :
    PE X (.Call (.Attribute o m apos) [] [] pos) (tMethSD C m sp dvs E ta tNil) := by
  refine ⟨fun pins s σ H Q I h => ?_⟩
  refine PySem.W.methodCall_KW (pl := pl) (thn (he.run pins s σ H _ I h) fun u s1 ⟨x, H1, I1, rx, a, dx, fs, ex, ea, l, q⟩ => ?_) ht
  subst ex
  obtain rfl : u = Value.ref a := rx
  refine getmeth_ok I1 ea c hm l ?_
  exact PySem.W.callWith_K0 (first := [.ref a]) I1.kIn hm.kp (run_fnSD (us := [.ref a]) (vs := [.ref a]) F hr hb hd (hx σ) I1 (.cons rfl .nil) q)
def tMakeSD (C : Addr) (sp : Sp) (dvs : List V) (E : L2.St → XK) (t : TA) : TE := fun σ H Q => t σ H fun vs H1 => ∀ x dx, H1 x = none → H1 dx = none → dx ≠ x →
  sp (.ref x :: (vs ++ dvs)) (upd (upd H1 dx (.own x)) x (.ins C dx [])) (fun v H2 => v = .non ∧ Q (.ref x) H2) (E σ)
theorem run_makeSD {CX : CXT} {C fa : Addr} {fd : FuncData} {ps : List Str} {sp : Sp} {dvs : List V} {ds : List Value} {E : L2.St → XK} {k : Nat} {pins : List (Addr × Obj)} {σ : L2.St} {H : Hp} {s : Shared} {Q : VK} {us : List Value} {vs : List V} (M : Mk X.K C fa) (F : FnOk X.prog X.w X.K X.mg X.base CX k fa fd ps sp) (hr : Room (k + 1) X.A) (hb : Binds X.K fd ps ds) (hd : Vals dvs ds)
    (hx : PassesAt CX X σ (E σ)) (I : Inv X pins σ H s) (r : Vals vs us)
    (h : ∀ x dx, H x = none → H dx = none → dx ≠ x → sp (.ref x :: (vs ++ dvs)) (upd (upd H dx (.own x)) x (.ins C dx [])) (fun v H2 => v = .non ∧ Q (.ref x) H2) (E σ)) :
    wpAny (model X.prog X.w) X.A (call (.ref C) us) (EP X pins σ Q) X.xe s := by
  have hq := h (s.heap.objs.size + 1) s.heap.objs.size (I.hok.fresh (Nat.le_succ _)) (I.hok.fresh (Nat.le_refl _)) (Nat.ne_of_lt (Nat.lt_succ_self _))
  have I2 := Inv.made (C := C) I
  have r2 : Vals (V.ref (s.heap.objs.size + 1) :: (vs ++ dvs)) (Value.ref (s.heap.objs.size + 1) :: (us ++ ds)) := .cons rfl (r.append hd)
  have hl : (Value.ref (s.heap.objs.size + 1) :: us ++ ds).length = ps.length := by
    have e := r2.length
    rw [F.len _ _ _ _ hq] at e
    exact e.symm
  refine wpAny_call (make_map (f := fa) I.kIn M.makes M.init (beq_iff_eq.mp M.fn) (codeAny_mono (F.run _ X.stack _ _ ⟨Value.ref (s.heap.objs.size + 1) :: us, []⟩ (Value.ref (s.heap.objs.size + 1) :: (us ++ ds)) _ _ (E σ) (hr.make C us [])
    (I2.env0.make C us []) (hb _ (Value.ref (s.heap.objs.size + 1) :: us) I2.kIn hl) r2 hq) fun r s' hq' => ?_))
  cases r with
  | error e => exact hx pins _ _ e s' I2 hq'
  | ok fl =>
    cases fl with
    | ret u =>
      obtain ⟨v, H', I3, rv, ev, q3⟩ := I2.after hq'
      subst ev
      exact ⟨rv, ⟨V.ref (s.heap.objs.size + 1), H', I3, rfl, q3⟩⟩
    | next => exact False.elim hq'
    | brk => exact False.elim hq'
    | cont => exact False.elim hq'
theorem pe_makeSD {CX : CXT} {C fa : Addr} {fd : FuncData} {ps : List Str} {sp : Sp} {dvs : List V} {ds : List Value} {E : L2.St → XK} {k : Nat} {t : TA} (M : Mk X.K C fa) (F : FnOk X.prog X.w X.K X.mg X.base CX k fa fd ps sp) (hr : Room (k + 1) X.A) (hg : Gl X x) (hm : X.mg x = some (.ref C)) (hb : Binds X.K fd ps ds) (hd : Vals dvs ds) (hx : ∀ σ, PassesAt CX X σ (E σ))
    (ha : PA X (e :: es) t) (hdb : (x == ("__debug__" : Str)) = false := by decide) (he : starEach (e :: es) X.env = (false, eval e X.env) :: starEach es X.env := by rfl) (hpl : (backTo pos (starEach es X.env)).any (·.1) = false := by rfl) :
    PE X (.Call (.Name x p) (e :: es) [] pos) (tMakeSD C sp dvs E t) := by
  refine ⟨fun pins s σ H Q I h => ?_⟩
  refine wpAny_Call_Name_kw (ld_glob I hg hm ?_ hdb)
  refine PySem.W.callWith_K (h₀ := X.base) I.ok.mod.kin M.kp (thn (ha.run pos pins s σ H _ I h) fun us s1 ⟨vs, H1, I1, r, q⟩ => ⟨I1.kIn, ?_⟩) he hpl
  exact run_makeSD M F hr hb hd (hx σ) I1 r q
theorem pe_makeSD0 {CX : CXT} {C fa : Addr} {fd : FuncData} {ps : List Str} {sp : Sp} {dvs : List V} {ds : List Value} {E : L2.St → XK} {k : Nat} (M : Mk X.K C fa) (F : FnOk X.prog X.w X.K X.mg X.base CX k fa fd ps sp) (hr : Room (k + 1) X.A) (hg : Gl X x) (hm : X.mg x = some (.ref C)) (hb : Binds X.K fd ps ds) (hd : Vals dvs ds) (hx : ∀ σ, PassesAt CX X σ (E σ))
    (hdb : (x == ("__debug__" : Str)) = false := by decide) : PE X (.Call (.Name x p) [] [] pos) (tMakeSD C sp dvs E tNil) := by
  refine ⟨fun pins s σ H Q I h => ?_⟩
  refine wpAny_Call_Name_kw (ld_glob I hg hm ?_ hdb)
  exact PySem.W.callWith_K0 I.kIn M.kp (run_makeSD (us := []) M F hr hb hd (hx σ) I .nil h)
end
/-! ### methods -/
/-- the object has no field of the method's name -/
def noFd (m : Str) : List (Str × Sl) → Bool
  | [] => true
  | (g, _) :: r => !decide (m = g) && noFd m r
theorem noFd_ok {W : Wd} {H : Hp} {L : Lc} {n : Nat} {ex : Bool} {m : Str} : ∀ {fs : List (Str × Sl)} {vs : List (Str × V)}, FsR W H L n ex fs vs → noFd m fs = true → vs.lookup m = none
  | [], _, h, _ => by rw [show _ = [] from h]; rfl
  | (g, s) :: r, _, ⟨v, t, e, _, q⟩, h => by
    subst e
    have h : (!decide (m = g) && noFd m r) = true := h
    rw [Bool.and_eq_true] at h
    have hne : (m == g) = false := by
      have h1 := h.1
      cases z : decide (m = g) with
      | true => rw [z] at h1; cases h1
      | false => simpa using of_decide_eq_false z
    simp only [List.lookup, hne]
    exact noFd_ok q h.2
def recv (cl mt : Str) (ω : Store) : D → Bool
  | .obj n => (match ω[n]? with
    | some o => decide (o.cls = cl) && noFd mt o.fs
    | none => false)
  | _ => false
section
variable {X : Cx} {Wx : WX} {pos p p' apos pos' : Pos} {a b c e o kx : Expr} {es : List Expr} {Ba Bb Bo Bk B : List Nat} {ma mb m mo mk : M} {mr : MA} {xa xb xo : MX} {xr : MXA} {x y f cl mt : Str} {i j k n : Nat} {g : Fu}
theorem recv_ok {W : Wd} {F : Fm} {ρ : Env'} {ω : Store} {L : Lc} {σ : L2.St} {H : Hp} {B : List Nat} {d : D} {v : V} {C : Addr} (R : Rel W F ρ ω L σ H) (hr : recv cl mt ω d = true) (hm : W.mg cl = some (.ref C)) (q : RepU W H (Fr L B) (obs L) d v) :
    ∃ n a dx fs, d = .obj n ∧ L (.ob n) = some a ∧ v = .ref a ∧ H a = some (.ins C dx fs) ∧ fs.lookup mt = none := by
  cases d with
  | obj n =>
    unfold recv at hr
    dsimp only at hr
    cases eo : ω[n]? with
    | none => rw [eo] at hr; cases hr
    | some o =>
      rw [eo] at hr
      have hr : (decide (o.cls = cl) && noFd mt o.fs) = true := hr
      rw [Bool.and_eq_true, decide_eq_true_eq] at hr
      obtain ⟨p1, C1, dx, fs, e1, e2, e3, q1⟩ := (R.st n o eo).at_
      rw [hr.1, hm] at e2
      cases e2
      obtain ⟨a, e4, e5⟩ := q
      have : p1 = a := Option.some.inj (e1.symm.trans e4)
      subst this
      exact ⟨n, p1, dx, fs, rfl, e1, e5, e3, noFd_ok q1 hr.2⟩
  | _ => cases hr
/-- a method that changes nothing -/
@[simp] def mMeth (cl mt : Str) (n : Nat) (g : Fu) (mo : M) (mr : MA) : M := fun ρ ω => (mo ρ ω).bind fun d => if recv cl mt ω d = true then (mr ρ ω).bind fun ds => if ds.length + 1 = n then ofRR ω (g ω.length (d :: ds) ω) else .stuck else .stuck
theorem meth_read {W : Wd} {F : Fm} {ρ : Env'} {ω : Store} {L : Lc} {σ : L2.St} {H : Hp} {Q : VK} {B : List Nat} {ds : List D} {vs : List V} {n : Nat} {g : Fu} (R : Rel W F ρ ω L σ H) (q : Reps W H (Fr L B) (obs L) ds vs) (h : Leaf W Wx L B σ H Q (if ds.length = n then ofRR ω (g ω.length ds ω) else .stuck)) : spF W n g vs H Q (fun c d H => Wx c d σ H) := by
  split at h
  case isFalse => exact h.elim
  rename_i hds
  refine ⟨by rw [q.len, hds], ω.length, lcC L B, ω, ds, R.into B ω.length (fun n h1 h2 => absurd h1 (Nat.not_lt.mpr h2)), lcC_no, Reps.mono kp_call ds vs q, ?_⟩
  cases zg : g ω.length ds ω with
  | stuck => rw [zg] at h; exact h
  | er e ω' =>
    rw [zg] at h
    exact fun cls dd H2 L' R' ns x => h cls dd H2 (call_keep R R' (Nat.le_refl _)) x
  | ok d ω' =>
    rw [zg] at h
    replace h : Leaf W Wx L B σ H Q (if ω'.length = ω.length then .ok d else .stuck) := h
    split at h
    · rename_i hl
      exact fun v H2 L' R' ns r => h v H2 (call_keep R R' (Nat.le_refl _)) (Rep.mono (call_back R R' (Nat.le_refl _) hl) d v r)
    · exact h.elim
theorem d_meth (cc : Mc X.prog X.w X.K X.mg X.base j cl mt n g) (hr : Room k X.A) (tk : Takes X Wx) (ho : DU X Wx Bo o mo) (ha : DA X Wx B (e :: es) mr) (hj : j ≤ k := by decide) {pl : Sem Bool}
    (hst : starEach (e :: es) X.env = (false, eval e X.env) :: starEach es X.env := by rfl) (hpl : (backTo pos (starEach es X.env)).any (·.1) = false := by rfl)
    (ht : eval (.Call (.Attribute o mt apos) (e :: es) [] pos) X.env = (do
      let ov ← eval o X.env
      standAt apos.atName
      let (f, first) ← holding [ov] (getMethod ov mt pl)
      callWith pos f first (backTo pos (starEach (e :: es) X.env)) (backToKw pos (keywordEach [] X.env))) := by rfl) : DP X Wx (Bo ++ B) (.Call (.Attribute o mt apos) (e :: es) [] pos) (mMeth cl mt n g mo mr) := by
  obtain ⟨C, fa, fd, ps, h1, h2, h3, h4, rfl, h6⟩ := cc.ex
  refine ⟨PE.weak (pe_methSD (pl := pl) ho.pe h2 h3 (h6.mono hj) hr h4 .nil (passAt tk) ha.pa hst hpl ht) fun σ H Q ⟨F, ρ, ω, L, R, h⟩ => ?_⟩
  refine part1 (B := Bo ++ B) (k := fun d => if recv cl mt ω d = true then (mr ρ ω).bind fun ds => if ds.length + 1 = ps.length then ofRR ω (g ω.length (d :: ds) ω) else .stuck else .stuck) subl R h fun v H1 d s R1 q l => ?_
  split at l
  case isFalse => exact l.elim
  rename_i hrv
  obtain ⟨nn, a, dx, fs, e1, e2, e3, e4, e5⟩ := recv_ok R1 hrv h1 q
  subst e1 e3
  refine ⟨a, dx, fs, rfl, e4, e5, F, ρ, ω, L, R1, ?_⟩
  refine LeafA.to (B' := Bo ++ B) (k := fun ds => if ds.length + 1 = ps.length then ofRR ω (g ω.length (.obj nn :: ds) ω) else .stuck) l subr fun vs H2 ds s2 q2 l2 => ?_
  rw [List.append_nil]
  exact meth_read (ds := .obj nn :: ds) (R1.same s2) ⟨_, _, rfl, ⟨a, e2, rfl⟩, q2⟩ l2
theorem d_meth0 (cc : Mc X.prog X.w X.K X.mg X.base j cl mt n g) (hr : Room k X.A) (tk : Takes X Wx) (ho : DU X Wx Bo o mo) (hj : j ≤ k := by decide) {pl : Sem Bool}
    (ht : eval (.Call (.Attribute o mt apos) [] [] pos) X.env = (do
      let ov ← eval o X.env
      standAt apos.atName
      let (f, first) ← holding [ov] (getMethod ov mt pl)
      callWith pos f first (backTo pos (starEach [] X.env)) (backToKw pos (keywordEach [] X.env))) := by rfl) : DP X Wx Bo (.Call (.Attribute o mt apos) [] [] pos) (mMeth cl mt n g mo aNil) := by
  obtain ⟨C, fa, fd, ps, h1, h2, h3, h4, rfl, h6⟩ := cc.ex
  refine ⟨PE.weak (pe_methSD0 (pl := pl) ho.pe h2 h3 (h6.mono hj) hr h4 .nil (passAt tk) ht) fun σ H Q ⟨F, ρ, ω, L, R, h⟩ => ?_⟩
  refine part1 (B := Bo) (k := fun d => if recv cl mt ω d = true then (aNil ρ ω).bind fun ds => if ds.length + 1 = ps.length then ofRR ω (g ω.length (d :: ds) ω) else .stuck else .stuck) subid R h fun v H1 d s R1 q l => ?_
  split at l
  case isFalse => exact l.elim
  rename_i hrv
  obtain ⟨nn, a, dx, fs, e1, e2, e3, e4, e5⟩ := recv_ok R1 hrv h1 q
  subst e1 e3
  refine ⟨a, dx, fs, rfl, e4, e5, ?_⟩
  exact meth_read (ds := [.obj nn]) R1 ⟨_, _, rfl, ⟨a, e2, rfl⟩, rfl⟩ l
/-- a method that may change objects -/
@[simp] def xMeth (cl mt : Str) (n : Nat) (g : Fu) (mo : M) (xr : MXA) : MX := fun n0 ρ ω => match mo ρ ω with
  | .stuck => .stuck
  | .err e => .er e ω
  | .ok d => if recv cl mt ω d = true then (xr n0 ρ ω).bind fun ds ρ1 ω1 => if ds.length + 1 = n then rrX ρ1 (g n0 (d :: ds) ω1) else .stuck else .stuck
theorem x_meth (cc : Mc X.prog X.w X.K X.mg X.base j cl mt n g) (hr : Room k X.A) (tk : Takes X Wx) (ho : DU X Wx Bo o mo) (ha : DXA X Wx (e :: es) xr) (hj : j ≤ k := by decide) {pl : Sem Bool}
    (hst : starEach (e :: es) X.env = (false, eval e X.env) :: starEach es X.env := by rfl) (hpl : (backTo pos (starEach es X.env)).any (·.1) = false := by rfl)
    (ht : eval (.Call (.Attribute o mt apos) (e :: es) [] pos) X.env = (do
      let ov ← eval o X.env
      standAt apos.atName
      let (f, first) ← holding [ov] (getMethod ov mt pl)
      callWith pos f first (backTo pos (starEach (e :: es) X.env)) (backToKw pos (keywordEach [] X.env))) := by rfl) : DX X Wx (.Call (.Attribute o mt apos) (e :: es) [] pos) (xMeth cl mt n g mo xr) := by
  obtain ⟨C, fa, fd, ps, h1, h2, h3, h4, rfl, h6⟩ := cc.ex
  refine ⟨PE.weak (pe_methSD (pl := pl) ho.pe h2 h3 (h6.mono hj) hr h4 .nil (passAt tk) ha.pa hst hpl ht) fun σ H Q ⟨F, ρ, ω, L, R, h⟩ => ?_⟩
  refine ⟨F, ρ, ω, L, R, ?_⟩
  unfold xMeth at h
  cases z : mo ρ ω with
  | stuck => rw [z] at h; exact h
  | err e => rw [z] at h; exact fun c d H' s x => h c d ρ H' L (R.same s) x
  | ok d =>
    rw [z] at h
    intro v H1 s q
    replace h : LeafX (wd X) Wx F σ Q (if recv cl mt ω d = true then (xr F.n0 ρ ω).bind fun ds ρ1 ω1 => if ds.length + 1 = ps.length then rrX ρ1 (g F.n0 (d :: ds) ω1) else .stuck else .stuck) := h
    have R1 := R.same s
    split at h
    case isFalse => exact h.elim
    rename_i hrv
    obtain ⟨nn, a, dx, fs, e1, e2, e3, e4, e5⟩ := recv_ok R1 hrv h1 q
    subst e1 e3
    refine ⟨a, dx, fs, rfl, e4, e5, ?_⟩
    refine partAx (k := fun ds ρ1 ω1 => if ds.length + 1 = ps.length then rrX ρ1 (g F.n0 (.obj nn :: ds) ω1) else .stuck) R1 h fun vs H2 L2 ρ1 ω1 ds R2 af q2 l2 => ?_
    rw [List.append_nil]
    exact spF_of (ds := .obj nn :: ds) R2 ⟨_, _, rfl, ⟨a, af.obk nn a e2, rfl⟩, q2⟩ l2
theorem x_meth0 (cc : Mc X.prog X.w X.K X.mg X.base j cl mt n g) (hr : Room k X.A) (tk : Takes X Wx) (ho : DU X Wx Bo o mo) (hj : j ≤ k := by decide) {pl : Sem Bool}
    (ht : eval (.Call (.Attribute o mt apos) [] [] pos) X.env = (do
      let ov ← eval o X.env
      standAt apos.atName
      let (f, first) ← holding [ov] (getMethod ov mt pl)
      callWith pos f first (backTo pos (starEach [] X.env)) (backToKw pos (keywordEach [] X.env))) := by rfl) : DX X Wx (.Call (.Attribute o mt apos) [] [] pos) (xMeth cl mt n g mo (xaP [] aNil)) := by
  obtain ⟨C, fa, fd, ps, h1, h2, h3, h4, rfl, h6⟩ := cc.ex
  refine ⟨PE.weak (pe_methSD0 (pl := pl) ho.pe h2 h3 (h6.mono hj) hr h4 .nil (passAt tk) ht) fun σ H Q ⟨F, ρ, ω, L, R, h⟩ => ?_⟩
  refine ⟨F, ρ, ω, L, R, ?_⟩
  unfold xMeth at h
  cases z : mo ρ ω with
  | stuck => rw [z] at h; exact h
  | err e => rw [z] at h; exact fun c d H' s x => h c d ρ H' L (R.same s) x
  | ok d =>
    rw [z] at h
    intro v H1 s q
    replace h : LeafX (wd X) Wx F σ Q (if recv cl mt ω d = true then (if ([] : List D).length + 1 = ps.length then rrX ρ (g F.n0 (d :: []) ω) else .stuck) else .stuck) := h
    have R1 := R.same s
    split at h
    case isFalse => exact h.elim
    rename_i hrv
    obtain ⟨nn, a, dx, fs, e1, e2, e3, e4, e5⟩ := recv_ok R1 hrv h1 q
    subst e1 e3
    refine ⟨a, dx, fs, rfl, e4, e5, ?_⟩
    exact spF_of (ds := [.obj nn]) R1 ⟨_, _, rfl, ⟨a, e2, rfl⟩, rfl⟩ h
/-- C(..) -/
def mkX (k : Nat) (ρ : Env') : RR → RE
  | .ok .non ω => .ok (.obj k) ρ ω
  | .er e ω => .er e ω
  | _ => .stuck
@[simp] def xMake (cl : Str) (n : Nat) (g : Fu) (xr : MXA) : MX := fun n0 ρ ω => (xr n0 ρ ω).bind fun ds ρ1 ω1 => if ds.length + 1 = n ∧ n0 ≤ ω1.length then mkX ω1.length ρ1 (g n0 (.obj ω1.length :: ds) (ω1 ++ [⟨cl, []⟩])) else .stuck
theorem make_read {W : Wd} {F : Fm} {ρ : Env'} {ω : Store} {L : Lc} {σ : L2.St} {H : Hp} {Q : VK} {ds : List D} {vs : List V} {n : Nat} {g : Fu} {C x dx : Addr} (R : Rel W F ρ ω L σ H) (q : Reps W H (Fr L []) (obs L) ds vs) (hm : W.mg cl = some (.ref C)) (hx : H x = none) (hdx : H dx = none) (ne : dx ≠ x)
    (h : LeafX W Wx F σ Q (if ds.length + 1 = n ∧ F.n0 ≤ ω.length then mkX ω.length ρ (g F.n0 (.obj ω.length :: ds) (ω ++ [⟨cl, []⟩])) else .stuck)) :
    spF W n g (.ref x :: vs) (upd (upd H dx (.own x)) x (.ins C dx [])) (fun v H2 => v = .non ∧ Q (.ref x) H2) (fun c d H => Wx c d σ H) := by
  split at h
  case isFalse => exact h.elim
  rename_i hc
  have R2 := R.newOb hc.2 hx hdx ne hm
  have s : Same H (upd (upd H dx (.own x)) x (.ins C dx [])) := (same_upd hdx).trans (same_upd (by rw [upd_ne (Ne.symm ne)]; exact hx))
  have q2 : Reps W (upd (upd H dx (.own x)) x (.ins C dx [])) (Fr (lcP L (.ob ω.length) (some x)) []) (obs (lcP L (.ob ω.length) (some x))) ds vs := by
    refine Reps.mono ⟨fun a u f h p e => ?_, fun a u _ h => s a u h, fun a xs h => s a _ h, fun m a h => ?_⟩ ds vs q
    · by_cases z : p = .ob ω.length
      · subst z
        rw [lcP_eq] at e
        cases e
        rw [hx] at h; cases h
      · rw [lcP_ne z] at e; exact f p e
    · have h : L (.ob m) = some a := h
      show lcP L (.ob ω.length) (some x) (.ob m) = some a
      by_cases z : m = ω.length
      · rw [z, (R.dom _ (Nat.le_refl _)).1] at h; cases h
      · rw [lcP_ne (fun y => z (by cases y; rfl))]; exact h
  have q3 : Reps W (upd (upd H dx (.own x)) x (.ins C dx [])) (Fr (lcP L (.ob ω.length) (some x)) []) (obs (lcP L (.ob ω.length) (some x))) (.obj ω.length :: ds) (.ref x :: vs) := ⟨_, _, rfl, ⟨x, lcP_eq, rfl⟩, q2⟩
  refine ⟨by rw [List.length_cons, q.len]; exact hc.1, F.n0, lcC (lcP L (.ob ω.length) (some x)) [], ω ++ [⟨cl, []⟩], .obj ω.length :: ds, R2.into [] F.n0 (fun _ _ h => h), lcC_no, Reps.mono kp_call0 _ _ q3, ?_⟩
  cases zg : g F.n0 (.obj ω.length :: ds) (ω ++ [⟨cl, []⟩]) with
  | stuck => rw [zg] at h; exact h
  | er e ω' => rw [zg] at h; exact fun c d H' L' R' _ x => h c d ρ H' _ (R2.back R') x
  | ok d ω' =>
    rw [zg] at h
    cases d with
    | non =>
      refine fun v H' L' R' _ qv => ⟨qv, h (.ref x) H' _ (R2.back R') ⟨x, ?_, rfl⟩⟩
      show lcB (lcP L (.ob ω.length) (some x)) L' (.ob ω.length) = some x
      exact R'.aft.obk ω.length x lcP_eq
    | _ => exact h.elim
theorem x_make (cc : Kc X.prog X.w X.K X.mg X.base j cl n g) (hr : Room k X.A) (tk : Takes X Wx) (ha : DXA X Wx (e :: es) xr) (hg : Gl X cl := by rfl) (hj : j + 1 ≤ k := by decide) (hdb : (cl == ("__debug__" : Str)) = false := by decide)
    (he : starEach (e :: es) X.env = (false, eval e X.env) :: starEach es X.env := by rfl) (hpl : (backTo pos (starEach es X.env)).any (·.1) = false := by rfl) : DX X Wx (.Call (.Name cl p) (e :: es) [] pos) (xMake cl n g xr) := by
  obtain ⟨C, fa, fd, ps, h1, h2, h4, rfl, h6⟩ := cc.ex
  refine ⟨PE.weak (pe_makeSD h2 h6 (hr.mono hj) hg h1 h4 .nil (passAt tk) ha.pa hdb he hpl) fun σ H Q ⟨F, ρ, ω, L, R, h⟩ => ?_⟩
  refine partAx (k := fun ds ρ1 ω1 => if ds.length + 1 = ps.length ∧ F.n0 ≤ ω1.length then mkX ω1.length ρ1 (g F.n0 (.obj ω1.length :: ds) (ω1 ++ [⟨cl, []⟩])) else .stuck) R h fun vs H1 L1 ρ1 ω1 ds R1 _ q l x dx hx hdx ne => ?_
  rw [List.append_nil]
  exact make_read R1 q h1 hx hdx ne l
theorem x_make0 (cc : Kc X.prog X.w X.K X.mg X.base j cl n g) (hr : Room k X.A) (tk : Takes X Wx) (hg : Gl X cl := by rfl) (hj : j + 1 ≤ k := by decide) (hdb : (cl == ("__debug__" : Str)) = false := by decide) : DX X Wx (.Call (.Name cl p) [] [] pos) (xMake cl n g (xaP [] aNil)) := by
  obtain ⟨C, fa, fd, ps, h1, h2, h4, rfl, h6⟩ := cc.ex
  refine ⟨PE.weak (pe_makeSD0 h2 h6 (hr.mono hj) hg h1 h4 .nil (passAt tk) hdb) fun σ H Q ⟨F, ρ, ω, L, R, h⟩ => ?_⟩
  intro x dx hx hdx ne
  exact make_read (ds := []) R rfl h1 hx hdx ne h
end
end DL
namespace DL
open PySem PySem.Spec PySem.Calls PyProof.Rows L2

/-! ### o.f = e -/
/-- the object whose field is stored -/
def objAt (cl : Str) (n0 : Nat) (ω : Store) : D → Option (Nat × Ob)
  | .obj k => (match ω[k]? with
    | some o => if o.cls = cl ∧ n0 ≤ k ∧ o.fs.length < 1000 then some (k, o) else none
    | none => none)
  | _ => none
theorem objAt_some {cl : Str} {n0 : Nat} {ω : Store} {d : D} {k : Nat} {o : Ob} (h : objAt cl n0 ω d = some (k, o)) : d = .obj k ∧ ω[k]? = some o ∧ o.cls = cl ∧ n0 ≤ k ∧ o.fs.length < 1000 := by
  cases d with
  | obj n =>
    unfold objAt at h
    dsimp only at h
    cases e : ω[n]? with
    | none => rw [e] at h; cases h
    | some o' =>
      rw [e] at h
      dsimp only at h
      split at h
      · rename_i c
        cases h
        exact ⟨rfl, e, c⟩
      · cases h
  | _ => cases h
theorem FsR.len {W : Wd} {H : Hp} {L : Lc} {n : Nat} {ex : Bool} : ∀ {fs : List (Str × Sl)} {vs : List (Str × V)}, FsR W H L n ex fs vs → vs.length = fs.length
  | [], _, h => by rw [show _ = [] from h]; rfl
  | (f, s) :: r, _, ⟨v, t, e, _, q⟩ => by rw [e, List.length_cons, List.length_cons, FsR.len q]
def stF (cl f : Str) (ω : Store) (k : Nat) (o : Ob) (s : Sl) : Store := ω.set k ⟨cl, putS f s o.fs⟩
section
variable {X : Cx} {Wx : WX} {pos p p' apos pos' cpos : Pos} {a b c e o kx : Expr} {es : List Expr} {Ba Bb Bo Bk B : List Nat} {ma mb m mo mk : M} {mr : MA} {xa xb xo : MX} {xr : MXA} {x y f cl mt : Str} {i j k n : Nat} {g : Fu}
/-- a value into a field -/
@[simp] def sFldX (cl f : Str) (mo : M) (xa : MX) : T := fun n0 ρ ω => ofX (xa n0 ρ ω) fun d ρ1 ω1 => match mo ρ1 ω1 with
  | .ok r => (match objAt cl n0 ω1 r with
    | some (k, o) => .nx ρ1 (stF cl f ω1 k o (.val d))
    | none => .stuck)
  | _ => .stuck
theorem obj_read {W : Wd} {F : Fm} {ρ : Env'} {ω : Store} {L : Lc} {σ : L2.St} {H : Hp} {B : List Nat} {d : D} {v : V} {k : Nat} {o : Ob} {n0 : Nat} (R : Rel W F ρ ω L σ H) (h : objAt cl n0 ω d = some (k, o)) (q : RepU W H (Fr L B) (obs L) d v) :
    ∃ pa C dx fs, L (.ob k) = some pa ∧ v = .ref pa ∧ W.mg cl = some (.ref C) ∧ H pa = some (.ins C dx fs) ∧ FsR W H L k (decide (F.n0 ≤ k)) o.fs fs ∧ fs.length < 1000 ∧ n0 ≤ k ∧ ω[k]? = some o ∧ o.cls = cl := by
  obtain ⟨e1, e2, e3, e4, e5⟩ := objAt_some h
  subst e1
  obtain ⟨p1, C1, dx, fs, f1, f2, f3, q1⟩ := (R.st k o e2).at_
  obtain ⟨a, e6, e7⟩ := q
  have : p1 = a := Option.some.inj (f1.symm.trans e6)
  subst this
  exact ⟨p1, C1, dx, fs, f1, e7, by rw [← e3]; exact f2, f3, q1, by rw [q1.len]; exact e5, e4, e2, e3⟩
theorem s_fldX (T : FldOk X cl f) (ho : DU X Wx Bo o mo) (he : DX X Wx e xa) (hs : swapsWith e (some (.Attribute o f pos')) pos.line X.env = pure false := by rfl) : DS X Wx (.Assign [.Attribute o f pos'] e pos) (sFldX cl f mo xa) :=
  ⟨PS.weak (ps_fld ho.pe he.pe hs) fun G σ H ⟨F, ρ, ω, L, R, h⟩ => ⟨F, ρ, ω, L, R, leafSX_bind (k := fun d ρ1 ω1 => match mo ρ1 ω1 with
  | .ok r => (match objAt cl F.n0 ω1 r with
    | some (k, o) => .nx ρ1 (stF cl f ω1 k o (.val d))
    | none => .stuck)
  | _ => .stuck) R h fun d ρ1 ω1 v H1 L1 _ R1 q l => by
    refine ⟨F, ρ1, ω1, L1, R1, ?_⟩
    cases z : mo ρ1 ω1 with
    | stuck => rw [z] at l; exact l
    | err e => rw [z] at l; exact l.elim
    | ok r =>
      rw [z] at l
      intro w H2 s2 q2
      replace l : LeafS (wd X) Wx F G (match objAt cl F.n0 ω1 r with
        | some (k, o) => .nx ρ1 (stF cl f ω1 k o (.val d))
        | none => .stuck) := l
      cases z2 : objAt cl F.n0 ω1 r with
      | none => rw [z2] at l; exact l.elim
      | some ko =>
        obtain ⟨k, o⟩ := ko
        rw [z2] at l
        have R2 := R1.same s2
        obtain ⟨pa, C, dx, fs, h1, h2, h3, h4, h5, h6, h7, h8, h9⟩ := obj_read R2 z2 q2
        obtain ⟨T1, T2⟩ := T.ok C h3
        refine ⟨pa, C, dx, fs, h2, h4, T1, T2, h6, ?_⟩
        subst h9
        have kk : Kp H2 H2 (Fr L1 []) (Fr (lcP L1 (.fd k f) none) []) (obs L1) (obs (lcP L1 (.fd k f) none)) :=
          ⟨fun a u g _ p e => by
            by_cases y : p = .fd k f
            · subst y; rw [lcP_eq] at e; cases e
            · rw [lcP_ne y] at e; exact g p e, fun _ _ _ h => h, fun _ _ h => h, fun n a h => by show lcP L1 (.fd k f) none (.ob n) = some a; rw [lcP_ne (fun y => by cases y)]; exact h⟩
        exact l _ _ _ (R2.putFd (Same.refl H2) h7 h8 h1 h3 h4 h5 kk (fun a e => by cases e) ⟨v, rfl, Rep.mono kk d v (q.same s2)⟩)⟩⟩
/-- a new container into a field: the field's own -/
@[simp] def sFldO (cl f : Str) (B : List Nat) (mo : M) (m : M) : T := fun n0 ρ ω => ofE (m ρ ω) ω fun d => match mo ρ ω with
  | .ok r => (match objAt cl n0 ω r with
    | some (k, o) => .nx (demO B d ρ) (stF cl f ω k o (.own d))
    | none => .stuck)
  | _ => .stuck
theorem s_fldO (T : FldOk X cl f) (ho : DU X Wx [] o mo) (he : DF X Wx B e m) (hs : swapsWith e (some (.Attribute o f pos')) pos.line X.env = pure false := by rfl) : DS X Wx (.Assign [.Attribute o f pos'] e pos) (sFldO cl f B mo m) :=
  ⟨PS.weak (ps_fld ho.pe he.pe hs) fun G σ H ⟨F, ρ, ω, L, R, h⟩ => ⟨F, ρ, ω, L, R, by
    unfold sFldO ofE at h
    cases z : m ρ ω with
    | stuck => rw [z] at h; exact h
    | err e => rw [z] at h; exact fun c d H' s x => h c d ρ σ H' L (R.same s) x
    | ok d =>
      rw [z] at h
      intro a H1 s n r
      refine ⟨F, ρ, ω, L, R.same s, ?_⟩
      replace h : LeafS (wd X) Wx F G (match mo ρ ω with
        | .ok r => (match objAt cl F.n0 ω r with
          | some (k, o) => .nx (demO B d ρ) (stF cl f ω k o (.own d))
          | none => .stuck)
        | _ => .stuck) := h
      cases z1 : mo ρ ω with
      | stuck => rw [z1] at h; exact h
      | err e => rw [z1] at h; exact h.elim
      | ok rr =>
        rw [z1] at h
        intro w H2 s2 q2
        replace h : LeafS (wd X) Wx F G (match objAt cl F.n0 ω rr with
          | some (k, o) => .nx (demO B d ρ) (stF cl f ω k o (.own d))
          | none => .stuck) := h
        cases z2 : objAt cl F.n0 ω rr with
        | none => rw [z2] at h; exact h.elim
        | some ko =>
          obtain ⟨k, o⟩ := ko
          rw [z2] at h
          -- the container is nobody's at H2
          have s12 : Same H H2 := s.trans s2
          have r2 : RepO (wd X) H2 (Fn L B a) (obs L) true d a := RepO.same s2 d a r
          have key : ∀ (ρ' : Env') (L' : Lc), Rel (wd X) F ρ' ω L' σ H → Kp H2 H2 (Fn L B a) (fun b => Fr L' [] b ∧ b ≠ a) (obs L) (obs L') → (∀ n, obs L' n = obs L n) → LeafS (wd X) Wx F G (.nx ρ' (stF cl f ω k o (.own d))) →
              ∃ a_1 C dx fs, w = .ref a_1 ∧ H2 a_1 = some (.ins C dx fs) ∧ Cls X.K C ∧ NoAttr X.K C f ∧ fs.length < 1000 ∧ G.nx σ (upd H2 a_1 (.ins C dx (putF f (.ref a) fs))) := by
            intro ρ' L' R' kp hob h
            have q3 : RepU (wd X) H2 (Fr L' []) (obs L') rr w := by
              obtain ⟨e1, _⟩ := objAt_some z2
              subst e1
              obtain ⟨b, e2, e3⟩ := q2
              exact ⟨b, by rw [hob]; exact e2, e3⟩
            obtain ⟨pa, C, dx, fs, h1, h2, h3, h4, h5, h6, h7, h8, h9⟩ := obj_read (B := []) (R'.same s12) z2 q3
            obtain ⟨T1, T2⟩ := T.ok C h3
            refine ⟨pa, C, dx, fs, h2, h4, T1, T2, h6, ?_⟩
            subst h9
            obtain ⟨p1, C1, dx1, fs1, f1, f2, f3, q1⟩ := (R'.st k o h8).at_
            have ep : p1 = pa := Option.some.inj (f1.symm.trans h1)
            subst ep
            have ei : HO.ins C1 dx1 fs1 = .ins C dx fs := Option.some.inj ((s12 _ _ f3).symm.trans h4)
            cases ei
            have kk : Kp H H2 (Fr L' []) (Fr (lcP L' (.fd k f) (some a)) []) (obs L') (obs (lcP L' (.fd k f) (some a))) :=
              ⟨fun b u g hb p e => by
                by_cases y : p = .fd k f
                · subst y
                  rw [lcP_eq] at e
                  cases e
                  rw [n] at hb; cases hb
                · rw [lcP_ne y] at e; exact g p e, fun b u _ h => s12 b u h, fun b xs h => s12 b _ h, fun n b h => by show lcP L' (.fd k f) (some a) (.ob n) = some b; rw [lcP_ne (fun y => by cases y)]; exact h⟩
            refine h _ _ _ (R'.putFd (oa := some a) s12 h7 h8 h1 h3 f3 q1 kk (fun b e => by cases e; exact ⟨n, isC_repO r2⟩) ⟨a, rfl, lcP_eq, ?_⟩)
            refine RepO.mono (S := fun b => Fr L' [] b ∧ b ≠ a) (ob := obs L') ⟨fun b u g _ p e => ?_, fun _ _ _ h => h, fun _ _ h => h, fun m b h => ?_⟩ (fun _ h => h) (fun _ h => h) (RepO.mono kp (fun _ h => h) (fun _ h => h) r2)
            · by_cases y : p = .fd k f
              · subst y
                rw [lcP_eq] at e
                cases e
                exact absurd rfl g.2
              · rw [lcP_ne y] at e; exact g.1 p e
            · show lcP L' (.fd k f) (some a) (.ob m) = some b
              rw [lcP_ne (fun y => by cases y)]; exact h
          replace h : LeafS (wd X) Wx F G (.nx (demO B d ρ) (stF cl f ω k o (.own d))) := h
          unfold demO at h
          by_cases hf : D.inFree d = true
          · rw [if_pos hf] at h
            have r3 : RepO (wd X) H2 (fun b => Fr L [] b ∧ b ≠ a) (obs L) true d a := inFree_repO hf r2
            -- its items are free: any places will do
            have q3 : RepU (wd X) H2 (Fr L []) (obs L) rr w := q2
            obtain ⟨pa, C, dx, fs, h1, h2, h3, h4, h5, h6, h7, h8, h9⟩ := obj_read (B := []) (R.same s12) z2 q3
            obtain ⟨T1, T2⟩ := T.ok C h3
            refine ⟨pa, C, dx, fs, h2, h4, T1, T2, h6, ?_⟩
            subst h9
            obtain ⟨p1, C1, dx1, fs1, f1, f2, f3, q1⟩ := (R.st k o h8).at_
            have ep : p1 = pa := Option.some.inj (f1.symm.trans h1)
            subst ep
            have ei : HO.ins C1 dx1 fs1 = .ins C dx fs := Option.some.inj ((s12 _ _ f3).symm.trans h4)
            cases ei
            have kk : Kp H H2 (Fr L []) (Fr (lcP L (.fd k f) (some a)) []) (obs L) (obs (lcP L (.fd k f) (some a))) :=
              ⟨fun b u g hb p e => by
                by_cases y : p = .fd k f
                · subst y
                  rw [lcP_eq] at e
                  cases e
                  rw [n] at hb; cases hb
                · rw [lcP_ne y] at e; exact g p e, fun b u _ h => s12 b u h, fun b xs h => s12 b _ h, fun n b h => by show lcP L (.fd k f) (some a) (.ob n) = some b; rw [lcP_ne (fun y => by cases y)]; exact h⟩
            refine h _ _ _ (R.putFd (oa := some a) s12 h7 h8 h1 h3 f3 q1 kk (fun b e => by cases e; exact ⟨n, isC_repO r2⟩) ⟨a, rfl, lcP_eq, ?_⟩)
            refine inFree_repO hf (RepO.mono (S := Fn L B a) (S' := Fn L B a) (ob := obs L) ⟨fun _ _ f _ => f, fun _ _ _ h => h, fun _ _ h => h, fun m b h => ?_⟩ (fun _ h => h) (fun _ h => h) r2)
            show lcP L (.fd k f) (some a) (.ob m) = some b
            rw [lcP_ne (fun y => by cases y)]; exact h
          · rw [if_neg hf] at h
            exact key _ _ (R.demote B) ⟨fun b u f _ => ⟨f.1.dem, f.2⟩, fun _ _ _ h => h, fun _ _ h => h, fun n b h => h⟩ (fun _ => rfl) h⟩⟩
theorem Rel.loosenP {W : Wd} {F : Fm} {ρ : Env'} {ω : Store} {L : Lc} {σ : L2.St} {H : Hp} (R : Rel W F ρ ω L σ H) {B : List Nat} {d : D} {v : V} (r : Rep W H (Fr L B) (obs L) d v) : ∃ L', Rel W F (dem B d ρ) ω L' σ H ∧ Rep W H (Fr L' []) (obs L') d v ∧ ∀ q, (∀ i, q ≠ .sl i) → L' q = L q := by
  unfold dem
  split
  · rename_i f
    exact ⟨L, R, D.free_rep d v f r, fun _ _ => rfl⟩
  · refine ⟨_, R.demote B, Rep.mono (kp_dem (W := W)) d v r, fun q h => ?_⟩
    cases q with
    | sl i => exact absurd rfl (h i)
    | fd n f => rfl
    | ob n => rfl
    | fg a => rfl
/-! ### o.f.append(e) -/
/-- the field's own container -/
def ownF (cl f : Str) (n0 : Nat) (ω : Store) (r : D) : Option (Nat × Ob × D) := match objAt cl n0 ω r with
  | some (k, o) => (match o.fs.lookup f with
    | some (.own d) => some (k, o, d)
    | _ => none)
  | none => none
theorem ownF_some {n0 : Nat} {ω : Store} {r d : D} {k : Nat} {o : Ob} (h : ownF cl f n0 ω r = some (k, o, d)) : objAt cl n0 ω r = some (k, o) ∧ o.fs.lookup f = some (.own d) := by
  unfold ownF at h
  cases z : objAt cl n0 ω r with
  | none => rw [z] at h; cases h
  | some ko =>
    obtain ⟨k', o'⟩ := ko
    rw [z] at h
    dsimp only at h
    split at h
    · rename_i d' e
      cases h
      exact ⟨rfl, e⟩
    · cases h
@[simp] noncomputable def sAppF (cl f : Str) (B : List Nat) (mo m : M) : T := fun n0 ρ ω => match mo ρ ω with
  | .ok r => (match ownF cl f n0 ω r with
    | some (k, o, .lst xs) => ofE (m ρ ω) ω fun d => @ite _ (xs.length < 1000000) (Classical.propDecidable _) (.nx (dem B d ρ) (stF cl f ω k o (.own (.lst (xs ++ [d]))))) .stuck
    | _ => .stuck)
  | _ => .stuck
theorem own_read {W : Wd} {F : Fm} {ρ : Env'} {ω : Store} {L : Lc} {σ : L2.St} {H : Hp} {B : List Nat} {r d : D} {v : V} {k : Nat} {o : Ob} {n0 : Nat} (R : Rel W F ρ ω L σ H) (h : ownF cl f n0 ω r = some (k, o, d)) (q : RepU W H (Fr L B) (obs L) r v) :
    ∃ pa C dx fs b, L (.ob k) = some pa ∧ v = .ref pa ∧ W.mg cl = some (.ref C) ∧ H pa = some (.ins C dx fs) ∧ fs.lookup f = some (.ref b) ∧ L (.fd k f) = some b ∧ RepO W H (Fr L []) (obs L) (decide (F.n0 ≤ k)) d b ∧ n0 ≤ k ∧ ω[k]? = some o ∧ o.cls = cl ∧ o.fs.lookup f = some (.own d) := by
  obtain ⟨e1, e2⟩ := ownF_some h
  obtain ⟨pa, C, dx, fs, h1, h2, h3, h4, h5, h6, h7, h8, h9⟩ := obj_read R e1 q
  obtain ⟨v1, l1, a, e3, e4, e5⟩ := h5.get e2
  cases e3
  exact ⟨pa, C, dx, fs, a, h1, h2, h3, h4, l1, e4, e5, h7, h8, h9, e2⟩
theorem s_appF (T : FldOk X cl f) (ho : DU X Wx [] o mo) (he : DP X Wx B e m)
    (hb : attributeBase o f X.env (eval o X.env) = eval o X.env := by rfl)
    (hbase : attributeBase (.Attribute o f p) "append" X.env (eval (.Attribute o f p) X.env) = eval (.Attribute o f p) X.env := by rfl)
    (hfew : ((backTo cpos (starEach (e :: []) X.env)).all (fun x => !x.1) && (backToKw cpos (keywordEach [] X.env)).all (fun x => x.1.isSome)
      && decide ((e :: ([] : List Expr)).length + ([] : List Keyword).length + (if ([] : List Keyword).isEmpty then 0 else 1) < 30)) = true := by rfl)
    (hline : (apos.endLine == cpos.line) = true := by rfl) (hs : starEach (e :: []) X.env = (false, eval e X.env) :: starEach [] X.env := by rfl) (hplain : (backTo cpos (starEach [] X.env)).any (·.1) = false := by rfl)
    (hsw : swapsWith (.Call (.Attribute (.Attribute o f p) "append" apos) [e] [] cpos) none pos.line X.env = pure false := by rfl) :
    DS X Wx (.Expr (.Call (.Attribute (.Attribute o f p) "append" apos) [e] [] cpos) pos) (sAppF cl f B mo m) :=
  ⟨PS.weak (ps_expr (pe_bm PySem.F.plainAttrs_list PySem.F.slot_list_append PySem.F.type_list_append mt_append (pe_fld ho.pe hb) (pa_cons he.pe pa_nil hs) hbase hfew hline hs hplain) hsw) fun G σ H ⟨F, ρ, ω, L, R, h⟩ => by
    refine ⟨F, ρ, ω, L, R, ?_⟩
    unfold sAppF at h
    cases z : mo ρ ω with
    | stuck => rw [z] at h; exact h
    | err e => rw [z] at h; exact h.elim
    | ok r =>
      rw [z] at h
      intro w H1 s1 q1
      replace h : LeafS (wd X) Wx F G (match ownF cl f F.n0 ω r with
        | some (k, o, .lst xs) => ofE (m ρ ω) ω fun d => @ite _ (xs.length < 1000000) (Classical.propDecidable _) (.nx (dem B d ρ) (stF cl f ω k o (.own (.lst (xs ++ [d]))))) .stuck
        | _ => .stuck) := h
      split at h
      · rename_i k o xs z2
        have R1 := R.same s1
        obtain ⟨pa, C, dx, fs, b, h1, h2, h3, h4, h5, h6, h7, h8, h9, h10, h11⟩ := own_read R1 z2 q1
        obtain ⟨T1, T2⟩ := T.ok C h3
        obtain ⟨vs0, hb0, _⟩ := h7
        refine ⟨pa, C, dx, fs, .ref b, h2, h4, T1, T2, h5, .inl ⟨rfl, vs0, SqL.of hb0⟩, F, ρ, ω, L, R1, leafS_bind (k := fun d => @ite _ (xs.length < 1000000) (Classical.propDecidable _) (.nx (dem B d ρ) (stF cl f ω k o (.own (.lst (xs ++ [d]))))) .stuck) R1 h fun d v H2 _ s2 R2 q l => ?_⟩
        split at l
        · rename_i hlen
          obtain ⟨L2, R3, q3, hL2⟩ := R2.loosenP q
          obtain ⟨p1, C1, dx1, fs1, f1, f2, f3, qf⟩ := (R3.st k o h9).at_
          obtain ⟨v1, l1, a1, e3, e4, vs, hv, rv⟩ := qf.get h11
          have eb : a1 = b := by
            rw [hL2 _ (fun i y => by cases y), h6] at e4
            exact (Option.some.inj e4).symm
          subst eb
          subst h10
          have kp := kp_poke (B := []) R3 (u := .lst (vs ++ [v])) e4 (fun _ => .inr rfl) rfl
          refine ⟨a1, vs, v, rfl, rfl, hv, by rw [rv.len, sizeLine_eq]; omega, l _ _ L2 (R3.pokeF h8 h9 e4 h11 rfl ⟨vs ++ [v], upd_same, ?_⟩)⟩
          exact (Reps.mono kp _ _ rv).app (Reps.one (Rep.mono kp _ _ q3))
        · exact l.elim
      · exact h.elim⟩
/-! ### dicts -/
def putD {κ : Type} [DecidableEq κ] (kvs : List (κ × D)) (k : κ) (d : D) : List (κ × D) := if (kvs.any fun kv => decide (kv.1 = k)) = true then kvs.map (fun kv => if kv.1 = k then (kv.1, d) else kv) else kvs ++ [(k, d)]
def dropD {κ : Type} [DecidableEq κ] (kvs : List (κ × D)) (k : κ) : List (κ × D) := kvs.filter fun kv => decide (kv.1 ≠ k)
theorem repK_app {W : Wd} {H : Hp} {S : Addr → Prop} {ob : Nat → Option Addr} : ∀ {a b : List (Key × D)} {u w : List (Key × V)}, RepK W H S ob a u → RepK W H S ob b w → RepK W H S ob (a ++ b) (u ++ w)
  | [], _, _, _, h, h' => by rw [show _ = [] from h]; exact h'
  | (k, d) :: a, _, _, _, ⟨v, t, e, p, q⟩, h' => by subst e; exact ⟨v, _, rfl, p, repK_app q h'⟩
theorem repK_any {W : Wd} {H : Hp} {S : Addr → Prop} {ob : Nat → Option Addr} {k : Key} : ∀ {a : List (Key × D)} {u : List (Key × V)}, RepK W H S ob a u → (u.any fun kv => decide (kv.1 = k)) = (a.any fun kv => decide (kv.1 = k))
  | [], _, h => by rw [show _ = [] from h]; rfl
  | (x, d) :: a, _, ⟨v, t, e, p, q⟩ => by subst e; rw [List.any_cons, List.any_cons, repK_any q]
theorem repK_set {W : Wd} {H : Hp} {S : Addr → Prop} {ob : Nat → Option Addr} {k : Key} {d : D} {v : V} (r : Rep W H S ob d v) : ∀ {a : List (Key × D)} {u : List (Key × V)}, RepK W H S ob a u → RepK W H S ob (a.map fun kv => if kv.1 = k then (kv.1, d) else kv) (u.map fun kv => if kv.1 = k then (kv.1, v) else kv)
  | [], _, h => by rw [show _ = [] from h]; rfl
  | (x, d0) :: a, _, ⟨v0, t, e, p, q⟩ => by
    subst e
    rw [List.map_cons, List.map_cons]
    by_cases z : x = k
    · rw [if_pos z, if_pos z]
      exact ⟨v, _, rfl, r, repK_set r q⟩
    · rw [if_neg z, if_neg z]
      exact ⟨v0, _, rfl, p, repK_set r q⟩
theorem repK_put {W : Wd} {H : Hp} {S : Addr → Prop} {ob : Nat → Option Addr} {k : Key} {d : D} {v : V} {a : List (Key × D)} {u : List (Key × V)} (h : RepK W H S ob a u) (r : Rep W H S ob d v) : RepK W H S ob (putD a k d) (putK u k v) := by
  unfold putD putK
  rw [repK_any h]
  split
  · exact repK_set r h
  · exact repK_app h ⟨v, [], rfl, r, rfl⟩
theorem repK_drop {W : Wd} {H : Hp} {S : Addr → Prop} {ob : Nat → Option Addr} {k : Key} : ∀ {a : List (Key × D)} {u : List (Key × V)}, RepK W H S ob a u → RepK W H S ob (dropD a k) (dropK u k)
  | [], _, h => by rw [show _ = [] from h]; rfl
  | (x, d) :: a, _, ⟨v, t, e, p, q⟩ => by
    subst e
    have ih := repK_drop (k := k) q
    unfold dropD dropK at ih ⊢
    rw [List.filter_cons, List.filter_cons]
    by_cases z : x = k
    · rw [if_neg (by simp [z]), if_neg (by simp [z])]; exact ih
    · rw [if_pos (by simp [z]), if_pos (by simp [z])]; exact ⟨v, _, rfl, p, ih⟩
theorem repT_app {W : Wd} {H : Hp} {S : Addr → Prop} {ob : Nat → Option Addr} : ∀ {a b : List (List Key × D)} {u w : List (List Key × V)}, RepT W H S ob a u → RepT W H S ob b w → RepT W H S ob (a ++ b) (u ++ w)
  | [], _, _, _, h, h' => by rw [show _ = [] from h]; exact h'
  | (k, d) :: a, _, _, _, ⟨v, t, e, p, q⟩, h' => by subst e; exact ⟨v, _, rfl, p, repT_app q h'⟩
theorem repT_any {W : Wd} {H : Hp} {S : Addr → Prop} {ob : Nat → Option Addr} {k : List Key} : ∀ {a : List (List Key × D)} {u : List (List Key × V)}, RepT W H S ob a u → (u.any fun kv => decide (kv.1 = k)) = (a.any fun kv => decide (kv.1 = k))
  | [], _, h => by rw [show _ = [] from h]; rfl
  | (x, d) :: a, _, ⟨v, t, e, p, q⟩ => by subst e; rw [List.any_cons, List.any_cons, repT_any q]
theorem repT_set {W : Wd} {H : Hp} {S : Addr → Prop} {ob : Nat → Option Addr} {k : List Key} {d : D} {v : V} (r : Rep W H S ob d v) : ∀ {a : List (List Key × D)} {u : List (List Key × V)}, RepT W H S ob a u → RepT W H S ob (a.map fun kv => if kv.1 = k then (kv.1, d) else kv) (u.map fun kv => if kv.1 = k then (kv.1, v) else kv)
  | [], _, h => by rw [show _ = [] from h]; rfl
  | (x, d0) :: a, _, ⟨v0, t, e, p, q⟩ => by
    subst e
    rw [List.map_cons, List.map_cons]
    by_cases z : x = k
    · rw [if_pos z, if_pos z]
      exact ⟨v, _, rfl, r, repT_set r q⟩
    · rw [if_neg z, if_neg z]
      exact ⟨v0, _, rfl, p, repT_set r q⟩
theorem repT_put {W : Wd} {H : Hp} {S : Addr → Prop} {ob : Nat → Option Addr} {k : List Key} {d : D} {v : V} {a : List (List Key × D)} {u : List (List Key × V)} (h : RepT W H S ob a u) (r : Rep W H S ob d v) : RepT W H S ob (putD a k d) (putK u k v) := by
  unfold putD putK
  rw [repT_any h]
  split
  · exact repT_set r h
  · exact repT_app h ⟨v, [], rfl, r, rfl⟩
theorem repT_len {W : Wd} {H : Hp} {S : Addr → Prop} {ob : Nat → Option Addr} : ∀ {ds : List (List Key × D)} {vs : List (List Key × V)}, RepT W H S ob ds vs → vs.length = ds.length
  | [], _, h => by rw [show _ = [] from h]; rfl
  | (k, d) :: ds, _, h => by
    obtain ⟨v, r, e, p, q⟩ := h
    rw [e, List.length_cons, List.length_cons, repT_len q]
/-- a container with one entry more -/
noncomputable def gPut (c y d : D) : Option D := match c, y with
  | .dK kvs, y => (match D.flatK y with
    | some k => @ite _ (kvs.length < 1000000) (Classical.propDecidable _) (some (.dK (putD kvs k d))) none
    | none => none)
  | .dT kvs, .tup ks => (match D.flatKs ks with
    | some k => @ite _ (kvs.length < 1000000) (Classical.propDecidable _) (some (.dT (putD kvs k d))) none
    | none => none)
  | _, _ => none
/-- the store at an owned dict -/
theorem put_read {W : Wd} {H : Hp} {S S' : Addr → Prop} {ob : Nat → Option Addr} {c y d c' : D} {b : Addr} {v w : V} (hc : RepO W H S ob true c b) (hy : RepU W H S' ob y w) (h : gPut c y d = some c') :
    ∃ u, isC u = true ∧ DPut H b w v (upd H b u) ∧ ∀ (S2 : Addr → Prop), (Kp H (upd H b u) S S2 ob ob) → Rep W (upd H b u) S2 ob d v → RepO W (upd H b u) S2 ob true c' b := by
  unfold gPut at h
  split at h
  · rename_i kvs _
    split at h
    · rename_i k hk
      split at h
      · rename_i hl
        cases h
        obtain ⟨vs, ha, r⟩ := hc
        have hb := ha.1 rfl
        have hw := flatK_ok hk hy
        refine ⟨.dK (putK vs k v), rfl, ?_, fun S2 kp rv => ⟨_, .of upd_same, repK_put (RepK.mono kp _ _ r) rv⟩⟩
        rw [hw]
        exact DPut.k hb (by rw [repK_len r, sizeLine_eq]; omega)
      · cases h
    · cases h
  · rename_i kvs ks
    split at h
    · rename_i k hk
      split at h
      · rename_i hl
        cases h
        obtain ⟨vs, ha, r⟩ := hc
        have hb := ha.1 rfl
        obtain ⟨a2, us, e2, h2, r2⟩ := hy
        subst e2
        refine ⟨.dT (putK vs k v), rfl, ?_, fun S2 kp rv => ⟨_, .of upd_same, repT_put (RepT.mono kp _ _ r) rv⟩⟩
        exact DPut.t hb (by rw [h2, flatKs_ok hk r2]) (by rw [repT_len r, sizeLine_eq]; omega)
      · cases h
    · cases h
  · cases h
/-- name[k] = e, name's own dict -/
@[simp] noncomputable def sPut (i : Nat) (B : List Nat) (mk m : M) : T := fun _ ρ ω => ofE (m ρ ω) ω fun d => match mk (dem B d ρ) ω with
  | .ok y => (match (dem B d ρ)[i]? with
    | some (.own c) => (match gPut c y d with
      | some c' => .nx ((dem B d ρ).set i (.own c')) ω
      | none => .stuck)
    | _ => .stuck)
  | _ => .stuck
theorem s_put (i : Nat) (hu : X.A.units + 64 < cLine) (hk : DU X Wx Bk kx mk) (he : DP X Wx B e m) (hN : X.N[i]? = some x := by rfl) (hv : Vis X.env.scope x := by first | exact Or.inl rfl | exact Or.inr (Or.inl rfl) | exact Or.inr (Or.inr rfl)) (hd : (x == ("__debug__" : Str)) = false := by decide)
    (hcd : (x == ("__classdict__" : Str)) = false := by decide) (hs : swapsWith e (some (.Subscript (.Name x p) kx pos')) pos.line X.env = pure false := by rfl) : DS X Wx (.Assign [.Subscript (.Name x p) kx pos'] e pos) (sPut i B mk m) :=
  ⟨PS.weak (ps_dput (by omega) (pe_var (i := i) hN hv hd hcd) hk.pe he.pe hs) fun G σ H ⟨F, ρ, ω, L, R, h⟩ => ⟨F, ρ, ω, L, R, leafS_bind (k := fun d => match mk (dem B d ρ) ω with
  | .ok y => (match (dem B d ρ)[i]? with
    | some (.own c) => (match gPut c y d with
      | some c' => .nx ((dem B d ρ).set i (.own c')) ω
      | none => .stuck)
    | _ => .stuck)
  | _ => .stuck) R h fun d v H1 _ s1 R1 q l => by
    obtain ⟨L2, R2, q2⟩ := R1.loosen q
    cases z : mk (dem B d ρ) ω with
    | stuck => rw [z] at l; exact l.elim
    | err e => rw [z] at l; exact l.elim
    | ok y =>
      rw [z] at l
      dsimp only at l
      split at l
      · rename_i c ei
        obtain ⟨b, f1, l2, r2⟩ := R2.sl i _ ei
        refine ⟨.ref b, slot_at f1, F, dem B d ρ, ω, L2, R2, ?_⟩
        rw [z]
        intro w H2 s2 qk
        have R3 := R2.same s2
        obtain ⟨b', f1', l2', r3⟩ := R3.sl i _ ei
        have eb : b' = b := Option.some.inj (l2'.symm.trans l2)
        subst eb
        cases z2 : gPut c y d with
        | none => rw [z2] at l; exact l.elim
        | some c' =>
          rw [z2] at l
          obtain ⟨u, hu', hp, fin⟩ := put_read (v := v) r3 qk z2
          have kp := kp_poke (B := []) R3 (u := u) l2 (fun _ => .inr rfl) hu'
          exact ⟨b', _, rfl, hp, l _ _ L2 (R3.pokeS l2 hu' f1' (fin _ kp (Rep.mono kp _ _ (q2.same s2))))⟩
      · exact l.elim⟩⟩
/-- o.f[k] = e, the field's own dict -/
@[simp] noncomputable def sPutF (cl f : Str) (B : List Nat) (mo mk m : M) : T := fun n0 ρ ω => ofE (m ρ ω) ω fun d => match mo (dem B d ρ) ω with
  | .ok r => (match ownF cl f n0 ω r with
    | some (k, o, c) => (match mk (dem B d ρ) ω with
      | .ok y => (match gPut c y d with
        | some c' => .nx (dem B d ρ) (stF cl f ω k o (.own c'))
        | none => .stuck)
      | _ => .stuck)
    | none => .stuck)
  | _ => .stuck
theorem s_putF (hu : X.A.units + 64 < cLine) (T : FldOk X cl f) (ho : DU X Wx Bo o mo) (hk : DU X Wx Bk kx mk) (he : DP X Wx B e m) (hb : attributeBase o f X.env (eval o X.env) = eval o X.env := by rfl)
    (hs : swapsWith e (some (.Subscript (.Attribute o f p) kx pos')) pos.line X.env = pure false := by rfl) : DS X Wx (.Assign [.Subscript (.Attribute o f p) kx pos'] e pos) (sPutF cl f B mo mk m) :=
  ⟨PS.weak (ps_dput (by omega) (pe_fld ho.pe hb) hk.pe he.pe hs) fun G σ H ⟨F, ρ, ω, L, R, h⟩ => ⟨F, ρ, ω, L, R, leafS_bind (k := fun d => match mo (dem B d ρ) ω with
  | .ok r => (match ownF cl f F.n0 ω r with
    | some (k, o, c) => (match mk (dem B d ρ) ω with
      | .ok y => (match gPut c y d with
        | some c' => .nx (dem B d ρ) (stF cl f ω k o (.own c'))
        | none => .stuck)
      | _ => .stuck)
    | none => .stuck)
  | _ => .stuck) R h fun d v H1 _ s1 R1 q l => by
    obtain ⟨L2, R2, q2⟩ := R1.loosen q
    refine ⟨F, dem B d ρ, ω, L2, R2, ?_⟩
    cases z : mo (dem B d ρ) ω with
    | stuck => rw [z] at l; exact l.elim
    | err e => rw [z] at l; exact l.elim
    | ok r =>
      rw [z] at l
      intro wv H2 s2 qo
      dsimp only at l
      cases z2 : ownF cl f F.n0 ω r with
      | none => rw [z2] at l; exact l.elim
      | some koc =>
        obtain ⟨k, o, c⟩ := koc
        rw [z2] at l
        dsimp only at l
        have R3 := R2.same s2
        obtain ⟨pa, C, dx, fs, b, h1, h2, h3, h4, h5, h6, h7, h8, h9, h10, h11⟩ := own_read R3 z2 qo
        obtain ⟨T1, T2⟩ := T.ok C h3
        refine ⟨pa, C, dx, fs, .ref b, h2, h4, T1, T2, h5, F, dem B d ρ, ω, L2, R3, ?_⟩
        cases z3 : mk (dem B d ρ) ω with
        | stuck => rw [z3] at l; exact l.elim
        | err e => rw [z3] at l; exact l.elim
        | ok y =>
          rw [z3] at l
          intro w H3 s3 qk
          dsimp only at l
          cases z4 : gPut c y d with
          | none => rw [z4] at l; exact l.elim
          | some c' =>
            rw [z4] at l
            subst h10
            have R4 := R3.same s3
            have h7' := RepO.same s3 c b h7
            rw [decide_eq_true h8] at h7'
            obtain ⟨u, hu', hp, fin⟩ := put_read (v := v) h7' qk z4
            have kp := kp_poke (B := []) R4 (u := u) h6 (fun _ => .inr rfl) hu'
            exact ⟨b, _, rfl, hp, l _ _ L2 (R4.pokeF h8 h9 h6 h11 hu' (fin _ kp (Rep.mono kp _ _ ((q2.same s2).same s3))))⟩⟩⟩
/-! ### d.get(k, x) -/
@[simp] def gGet2 (x y z : D) : Res D := match dget x y with
  | some (some d) => .ok d
  | some none => .ok z
  | none => .stuck
theorem isD_of {W : Wd} {H : Hp} {S : Addr → Prop} {ob : Nat → Option Addr} {x y : D} {v : V} {o : Option D} (p : RepU W H S ob x v) (e : dget x y = some o) : ∃ a, v = .ref a ∧ IsD H a := by
  cases x with
  | dK kvs => obtain ⟨a, vs, e1, h1, _⟩ := p; exact ⟨a, e1, .inl ⟨vs, h1⟩⟩
  | dT kvs => obtain ⟨a, vs, e1, h1, _⟩ := p; exact ⟨a, e1, .inr ⟨vs, h1⟩⟩
  | _ => cases y <;> cases e
@[simp] def isDct : D → Bool
  | .dK _ => true
  | .dT _ => true
  | _ => false
theorem isDct_ok {W : Wd} {H : Hp} {S : Addr → Prop} {ob : Nat → Option Addr} {x : D} {v : V} (h : isDct x = true) (p : RepU W H S ob x v) : ∃ a, v = .ref a ∧ IsD H a := by
  cases x with
  | dK kvs => obtain ⟨a, vs, e1, h1, _⟩ := p; exact ⟨a, e1, .inl ⟨vs, h1⟩⟩
  | dT kvs => obtain ⟨a, vs, e1, h1, _⟩ := p; exact ⟨a, e1, .inr ⟨vs, h1⟩⟩
  | _ => cases h
@[simp] def mGet2 (ma mb mc : M) : M := fun ρ ω => (ma ρ ω).bind fun x => if isDct x = true then (mb ρ ω).bind fun y => (mc ρ ω).bind fun z => gGet2 x y z else .stuck
theorem d_get2 {Bc : List Nat} {mc : M} (hu : X.A.units + 64 < cLine) (ha : DU X Wx Ba a ma) (hb : DU X Wx Bb b mb) (hc : DP X Wx Bc c mc) (hm : M2 X a "get" apos b c cpos := by exact ⟨rfl, rfl, rfl, rfl⟩) : DP X Wx (Ba ++ (Bb ++ Bc)) (.Call (.Attribute a "get" apos) [b, c] [] cpos) (mGet2 ma mb mc) :=
  ⟨PE.weak (pe_dget2 (by omega) ha.pe hb.pe hc.pe hm) fun σ H Q ⟨F, ρ, ω, L, R, h⟩ => by
    have sB : ∀ i ∈ Bb, i ∈ Ba ++ (Bb ++ Bc) := fun i h => List.mem_append_right _ (List.mem_append_left _ h)
    have sC : ∀ i ∈ Bc, i ∈ Ba ++ (Bb ++ Bc) := fun i h => List.mem_append_right _ (List.mem_append_right _ h)
    refine part1 (B := Ba ++ (Bb ++ Bc)) (k := fun x => if isDct x = true then (mb ρ ω).bind fun y => (mc ρ ω).bind fun z => gGet2 x y z else .stuck) subl R h fun v H1 x s1 R1 p l1 => ?_
    split at l1
    case isFalse => exact l1.elim
    rename_i hx
    obtain ⟨a1, e1, d1⟩ := isDct_ok hx p
    refine ⟨a1, e1, d1, ?_⟩
    refine part1 (B := Ba ++ (Bb ++ Bc)) (k := fun y => (mc ρ ω).bind fun z => gGet2 x y z) sB R1 l1 fun w H2 y s2 R2 q l2 => ?_
    refine ⟨F, ρ, ω, L, R2, ?_⟩
    cases z : mc ρ ω with
    | stuck => rw [z] at l2; exact l2
    | err e => rw [z] at l2; exact l2
    | ok d =>
      rw [z] at l2
      intro u H3 s3 r
      replace l2 : Leaf (wd X) Wx L (Ba ++ (Bb ++ Bc)) σ H2 Q (gGet2 x y d) := l2
      have l3 := l2.to s3 subid fun _ _ q => q
      have p3 := (p.same s2).same s3
      have q3 := q.same s3
      unfold gGet2 at l3
      cases eg : dget x y with
      | none => rw [eg] at l3; exact l3.elim
      | some o =>
        rw [eg] at l3
        obtain ⟨a2, zz, f1, f2, f3⟩ := dget_ok p3 q3 eg
        have ea : a2 = a1 := V.ref.inj (f1.symm.trans e1)
        subst ea
        refine ⟨zz, f2, ?_⟩
        cases o with
        | some d' =>
          obtain ⟨v', e3, r'⟩ := f3
          rw [e3]
          exact l3.ret r'
        | none =>
          have e3 : zz = none := f3
          rw [e3]
          exact l3.ret (r.wide sC)⟩
/-! ### o.f.pop(k), dropped -/
@[simp] def gPopK (c y : D) : Option D := match c with
  | .dK kvs => (match D.flatK y with
    | some k => (match kget kvs k with
      | some _ => some (.dK (dropD kvs k))
      | none => none)
    | none => none)
  | _ => none
@[simp] def sPopF (cl f : Str) (mo mk : M) : T := fun n0 ρ ω => match mo ρ ω with
  | .ok r => (match ownF cl f n0 ω r with
    | some (k, o, c) => (match mk ρ ω with
      | .ok y => (match gPopK c y with
        | some c' => .nx ρ (stF cl f ω k o (.own c'))
        | none => .stuck)
      | _ => .stuck)
    | none => .stuck)
  | _ => .stuck
theorem s_popF (T : FldOk X cl f) (ho : DU X Wx Bo o mo) (hk : DU X Wx Bk kx mk) (hb : attributeBase o f X.env (eval o X.env) = eval o X.env := by rfl) (hm : M1 X (.Attribute o f p) "pop" apos kx cpos := by exact ⟨rfl, rfl, rfl, rfl⟩)
    (hsw : swapsWith (.Call (.Attribute (.Attribute o f p) "pop" apos) [kx] [] cpos) none pos.line X.env = pure false := by rfl) : DS X Wx (.Expr (.Call (.Attribute (.Attribute o f p) "pop" apos) [kx] [] cpos) pos) (sPopF cl f mo mk) :=
  ⟨PS.weak (ps_expr (pe_dpop1 (pe_fld ho.pe hb) hk.pe hm) hsw) fun G σ H ⟨F, ρ, ω, L, R, l⟩ => by
    refine ⟨F, ρ, ω, L, R, ?_⟩
    unfold sPopF at l
    cases z : mo ρ ω with
    | stuck => rw [z] at l; exact l
    | err e => rw [z] at l; exact l.elim
    | ok r =>
      rw [z] at l
      intro wv H2 s2 qo
      dsimp only at l
      cases z2 : ownF cl f F.n0 ω r with
      | none => rw [z2] at l; exact l.elim
      | some koc =>
        obtain ⟨k, o, c⟩ := koc
        rw [z2] at l
        dsimp only at l
        have R3 := R.same s2
        obtain ⟨pa, C, dx, fs, b, h1, h2, h3, h4, h5, h6, h7, h8, h9, h10, h11⟩ := own_read R3 z2 qo
        obtain ⟨T1, T2⟩ := T.ok C h3
        cases z3 : mk ρ ω with
        | stuck => rw [z3] at l; exact l.elim
        | err e => rw [z3] at l; exact l.elim
        | ok y =>
          rw [z3] at l
          dsimp only at l
          cases z4 : gPopK c y with
          | none => rw [z4] at l; exact l.elim
          | some c' =>
            rw [z4] at l
            unfold gPopK at z4
            split at z4
            · rename_i kvs
              split at z4
              · rename_i ky hky
                split at z4
                · rename_i d0 hget
                  cases z4
                  rw [decide_eq_true h8] at h7
                  obtain ⟨vs, ha, rr⟩ := h7
                  have hb0 := ha.1 rfl
                  refine ⟨pa, C, dx, fs, .ref b, h2, h4, T1, T2, h5, b, rfl, .inl ⟨vs, .inl hb0⟩, F, ρ, ω, L, R3, ?_⟩
                  rw [z3]
                  intro w H3 s3 qk
                  subst h10
                  have R4 := R3.same s3
                  have g := repK_get (W := wd X) (H := H2) ky rr
                  rw [hget] at g
                  obtain ⟨v0, g1, _⟩ := g
                  refine ⟨vs, ky, v0, s3 _ _ hb0, flatK_ok hky qk, g1, ?_⟩
                  have kp := kp_poke (B := []) R4 (u := .dK (dropK vs ky)) h6 (fun _ => .inr rfl) rfl
                  exact l _ _ L (R4.pokeF h8 h9 h6 h11 rfl ⟨_, .of upd_same, RepK.mono kp _ _ (repK_drop (RepK.mono (Kp.same s3) _ _ rr))⟩)
                · cases z4
              · cases z4
            · cases z4⟩
end
end DL
namespace DL
open PySem PySem.Spec PySem.Calls PyProof.Rows L2

/-! ### a comprehension over a dict's keys -/
structure WalksH (W : Wd) (J : It) (xs : List D) (PP : Hp → Prop) : Prop where
  go : ∀ i H, PP H → i < xs.length → J.go i H
  yld : ∀ i H x H', PP H → J.yld i H x H' → i < xs.length → Same H H' ∧ ∃ d, xs[i]? = some d ∧ ∀ S ob, Rep W H' S ob d x
  stop : ∀ i H, PP H → xs.length ≤ i → J.stop i H
  same : ∀ H H', PP H → Same H H' → PP H'
  hole : ∀ H z l ys, PP H → H z = some (.lst l) → PP (upd H z (.lst ys))
theorem lc_readH {W : Wd} {Wx : WX} {Bi Be : List Nat} {i : Nat} {tt : Env' → Store → Res Bool} {me : M} {F : Fm} {ρ : Env'} {ω : Store} {L : Lc} {σ : L2.St} {H : Hp} {Q : VK} {J : It} {xs : List D} {PP : Hp → Prop} (R : Rel W F ρ ω L σ H) (hl : i < ρ.length) (hlen : xs.length ≤ 1000) (w : WalksH W J xs PP) (p0 : PP H)
    (h : LeafF W Wx L (i :: (Bi ++ Be)) σ H Q ((compL i tt me ω (demote Bi ρ) xs).bind fun ys => .ok (.lst ys))) (z : Addr) (hz : H z = none) :
    ∃ Wv : Nat → Nat → Hp → Prop, (∃ m, Wv 0 m (upd H z (.lst []))) ∧ ∀ k m H2, Wv k m H2 →
      (J.stop k H2 ∧ Q (.ref z) H2) ∨ (J.go k H2 ∧ ∃ Nx : Hp → Prop, (∀ H', Nx H' → ∃ m', m' < m ∧ Wv (k + 1) m' H') ∧ ∀ x H', J.yld k H2 x H' → gName i x (L2.wipe σ [i]) H' fun σ2 H2 => L2.wipe σ2 [i] = L2.wipe σ [i] ∧ tT W W0 tt σ2 H2 fun b H3 =>
        if b = true then tP W W0 Be me σ2 H3 fun y H4 => ∃ acc, H4 z = some (.lst acc) ∧ acc.length < sizeLine ∧ Nx (upd H4 z (.lst (acc ++ [y]))) else Nx H3) := by
  have hl' : i < (demote Bi ρ).length := by rw [demote_len]; exact hl
  have R1 := ((R.demote Bi).wipe i).hole hz []
  have LD : lcH (lcD Bi L) z (.fg z) = some z := lcH_eq
  have p1 := w.same _ _ p0 (same_upd (o := .lst []) hz)
  -- the invariant
  refine ⟨fun k m H2 => m = xs.length - k ∧ k ≤ xs.length ∧ ∃ (F2 : Fm) (ys : List D) (acc : List V), Rel W F2 ((demote Bi ρ).set i .no) ω (lcH (lcD Bi L) z) (L2.wipe σ [i]) H2 ∧ PP H2 ∧ H2 z = some (.lst acc) ∧ acc.length ≤ k ∧ Same H H2 ∧
    Reps W H2 (Fn L (i :: (Bi ++ Be)) z) (obs L) ys acc ∧ LeafF W Wx L (i :: (Bi ++ Be)) σ H Q ((compL i tt me ω (demote Bi ρ) (xs.drop k)).bind fun r => .ok (.lst (ys ++ r))), ⟨xs.length, by simp, Nat.zero_le _, _, [], [], R1, p1, upd_same, Nat.le_refl _, same_upd hz, rfl, h⟩, ?_⟩
  rintro k m H2 ⟨rfl, hk, F2, ys, acc, R2, p2, hacc, hal, s2, racc, l2⟩
  by_cases hlt : k < xs.length
  · refine .inr ⟨w.go k H2 p2 hlt, fun H3 => ∃ (F3 : Fm) (ys : List D) (acc : List V), Rel W F3 ((demote Bi ρ).set i .no) ω (lcH (lcD Bi L) z) (L2.wipe σ [i]) H3 ∧ PP H3 ∧ H3 z = some (.lst acc) ∧ acc.length ≤ k + 1 ∧ Same H H3 ∧
      Reps W H3 (Fn L (i :: (Bi ++ Be)) z) (obs L) ys acc ∧ LeafF W Wx L (i :: (Bi ++ Be)) σ H Q ((compL i tt me ω (demote Bi ρ) (xs.drop (k + 1))).bind fun r => .ok (.lst (ys ++ r))), fun H3 q => ⟨xs.length - (k + 1), by omega, rfl, hlt, q⟩, fun v H3 y => ?_⟩
    obtain ⟨sm, d, ed, rd⟩ := w.yld k H2 v H3 p2 y hlt
    have ex : xs.drop k = d :: xs.drop (k + 1) := by
      rw [List.drop_eq_getElem_cons hlt]
      congr 1
      rw [List.getElem?_eq_getElem hlt] at ed
      exact Option.some.inj ed
    rw [ex] at l2
    have R3 := R2.same sm
    have p3 := w.same _ _ p2 sm
    have s3 := s2.trans sm
    have racc3 := racc.same sm
    have hacc3 := sm _ _ hacc
    have hlen2 : i < ((demote Bi ρ).set i Sl.no).length := by rw [List.length_set]; exact hl'
    have ew : L2.wipe ((L2.wipe σ [i]).set i (some v)) [i] = L2.wipe σ [i] := by
      show ((σ.set i none).set i (some v)).set i none = σ.set i none
      rw [set_set_eq, set_set_eq]
    refine ⟨ew, ?_⟩
    have e2 : ((demote Bi ρ).set i Sl.no).set i (.val d) = (demote Bi ρ).set i (.val d) := set_set_eq ..
    have R4 := R3.putVal hlen2 (rd _ _)
    rw [e2] at R4
    have kL : ∀ (H5 : Hp), Kp H5 H5 (Fr (lcS (lcH (lcD Bi L) z) i none) Be) (Fn L (i :: (Bi ++ Be)) z) (obs (lcS (lcH (lcD Bi L) z) i none)) (obs L) := fun H5 => by
      refine ⟨fun a u f _ => ?_, fun _ _ _ h => h, fun _ _ h => h, fun n a h => ?_⟩
      · have nz : a ≠ z := fun e => by
          subst e
          obtain ⟨j, _, q⟩ := f (.fg a) (by rw [lcS_ne (fun e => by cases e)]; exact lcH_eq)
          cases q
        refine ⟨fun p e => ?_, nz⟩
        by_cases hp : p = .sl i
        · exact ⟨i, List.mem_cons_self, hp⟩
        · by_cases hq : ∃ j, p = .sl j ∧ j ∈ Bi
          · obtain ⟨j, hj, mj⟩ := hq
            exact ⟨j, List.mem_cons_of_mem _ (List.mem_append_left _ mj), hj⟩
          · have hg : p ≠ .fg z := fun q => by
              subst q
              exact nz (R.fgs z a e)
            obtain ⟨j, mj, hj⟩ := f p (by
              rw [lcS_ne hp, lcH_ne hg]
              cases p with
              | sl j =>
                show (if j ∈ Bi then none else L (.sl j)) = _
                rw [if_neg (fun m => hq ⟨j, rfl, m⟩)]
                exact e
              | fd n f => exact e
              | ob n => exact e
              | fg b => exact e)
            exact ⟨j, List.mem_cons_of_mem _ (List.mem_append_right _ mj), hj⟩
      · have h : lcS (lcH (lcD Bi L) z) i none (.ob n) = some a := h
        rw [lcS_ne (fun e => by cases e), lcH_ne (fun e => by cases e)] at h
        exact h
    refine ⟨F2, _, ω, _, R4, ?_⟩
    replace l2 : LeafF W Wx L (i :: (Bi ++ Be)) σ H Q ((match tt ((demote Bi ρ).set i (.val d)) ω with
      | .ok true => (match me ((demote Bi ρ).set i (.val d)) ω with
        | .ok y => (compL i tt me ω (demote Bi ρ) (xs.drop (k + 1))).bind fun ys => .ok (y :: ys)
        | _ => .stuck)
      | .ok false => compL i tt me ω (demote Bi ρ) (xs.drop (k + 1))
      | _ => .stuck).bind fun r => .ok (.lst (ys ++ r))) := l2
    cases zt : tt ((demote Bi ρ).set i (.val d)) ω with
    | stuck => rw [zt] at l2; exact l2.elim
    | err e => rw [zt] at l2; exact l2.elim
    | ok b =>
      rw [zt] at l2
      intro H4 s4
      cases b with
      | false =>
        rw [if_neg Bool.false_ne_true]
        exact ⟨F2, ys, acc, R3.same s4, w.same _ _ p3 s4, s4 _ _ hacc3, Nat.le_succ_of_le hal, s3.trans s4, racc3.same s4, l2⟩
      | true =>
        rw [if_pos rfl]
        refine ⟨F2, _, ω, _, R4.same s4, ?_⟩
        replace l2 : LeafF W Wx L (i :: (Bi ++ Be)) σ H Q ((match me ((demote Bi ρ).set i (.val d)) ω with
        | .ok y => (compL i tt me ω (demote Bi ρ) (xs.drop (k + 1))).bind fun ys => .ok (y :: ys)
        | _ => .stuck).bind fun r => .ok (.lst (ys ++ r))) := l2
        cases zm : me ((demote Bi ρ).set i (.val d)) ω with
        | stuck => rw [zm] at l2; exact l2.elim
        | err e => rw [zm] at l2; exact l2.elim
        | ok y =>
          rw [zm] at l2
          intro yv H5 s5 ry
          have s45 := s4.trans s5
          have hacc5 := s45 _ _ hacc3
          refine ⟨acc, hacc5, by rw [sizeLine_eq]; omega, ?_⟩
          have k5 : Kp H5 (upd H5 z (.lst (acc ++ [yv]))) (Fn L (i :: (Bi ++ Be)) z) (Fn L (i :: (Bi ++ Be)) z) (obs L) (obs L) :=
            ⟨fun _ _ f _ => f, fun a u f h => by rw [upd_ne f.2]; exact h, fun a vs h => by rw [upd_ne (fun e => by rw [e, hacc5] at h; cases h)]; exact h, fun _ _ h => h⟩
          refine ⟨_, ys ++ [y], acc ++ [yv], (R3.same s45).chg LD hacc5, w.hole _ _ _ _ (w.same _ _ p3 s45) hacc5, upd_same, by rw [List.length_append]; exact Nat.succ_le_succ hal, Same.upd_left (Same.trans s3 s45) hz,
            Reps.mono k5 _ _ ((racc3.same s45).app (Reps.one (Rep.mono (kL H5) _ _ ry))), ?_⟩
          cases zc : compL i tt me ω (demote Bi ρ) (xs.drop (k + 1)) with
          | stuck => rw [zc] at l2; exact l2.elim
          | err e => rw [zc] at l2; exact l2
          | ok rs =>
            rw [zc] at l2
            show LeafF W Wx L (i :: (Bi ++ Be)) σ H Q (.ok (.lst (ys ++ [y] ++ rs)))
            rw [List.append_assoc]
            exact l2
  · have e : k = xs.length := by omega
    subst e
    refine .inl ⟨w.stop _ H2 p2 (Nat.le_refl _), ?_⟩
    rw [List.drop_length] at l2
    replace l2 : LeafF W Wx L (i :: (Bi ++ Be)) σ H Q (.ok (.lst (ys ++ []))) := l2
    rw [List.append_nil] at l2
    exact l2.ret s2 hz ⟨acc, hacc, racc⟩
theorem compL_ne {i : Nat} {tt : Env' → Store → Res Bool} {me : M} {ω : Store} {ρ : Env'} {e : Er} : ∀ {l : List D}, compL i tt me ω ρ l ≠ .err e
  | [] => fun h => by cases h
  | x :: r => fun h => by
    unfold compL at h
    split at h
    · split at h
      · have ih := compL_ne (i := i) (tt := tt) (me := me) (ω := ω) (ρ := ρ) (e := e) (l := r)
        cases z : compL i tt me ω ρ r with
        | stuck => rw [z] at h; cases h
        | err e' => exact absurd z (compL_ne (l := r))
        | ok ys => rw [z] at h; cases h
      · cases h
    · exact compL_ne (l := r) h
    · cases h
/-! a dict that is walked does not move -/
def dct : HO → Bool
  | .dK _ => true
  | .dT _ => true
  | _ => false
structure Kz (H H' : Hp) : Prop where
  l : ∀ a xs, H a = some (.lst xs) → H' a = some (.lst xs)
  t : ∀ a xs, H a = some (.tup xs) → H' a = some (.tup xs)
  i : ∀ a C dx fs, H a = some (.ins C dx fs) → H' a = some (.ins C dx fs)
  dk : ∀ a vs, Rd H a (.dK vs) → Rd H' a (.dK vs)
  dt : ∀ a vs, Rd H a (.dT vs) → Rd H' a (.dT vs)
mutual
theorem Rep.kz {W : Wd} {H H' : Hp} {S : Addr → Prop} {ob : Nat → Option Addr} (k : Kz H H') : ∀ (d : D) (v : V), Rep W H S ob d v → Rep W H' S ob d v
  | .non, v, h => h
  | .bl b, v, h => h
  | .int i, v, h => h
  | .str s, v, h => h
  | .lst xs, v, ⟨a, vs, e, s, r, q⟩ => ⟨a, vs, e, s, k.l _ _ r, Reps.kz k xs vs q⟩
  | .tup xs, v, ⟨a, vs, e, r, q⟩ => ⟨a, vs, e, k.t _ _ r, Reps.kz k xs vs q⟩
  | .ctup xs, v, ⟨a, vs, e, r, q⟩ => ⟨a, vs, e, r, Reps.kz k xs vs q⟩
  | .dK kvs, v, ⟨a, vs, e, s, r, q⟩ => ⟨a, vs, e, s, k.dk _ _ r, RepK.kz k kvs vs q⟩
  | .dT kvs, v, ⟨a, vs, e, s, r, q⟩ => ⟨a, vs, e, s, k.dt _ _ r, RepT.kz k kvs vs q⟩
  | .ins c fs, v, ⟨a, C, dx, fv, e, s, m, r, q⟩ => ⟨a, C, dx, fv, e, s, m, k.i _ _ _ _ r, RepF.kz k fs fv q⟩
  | .obj n, v, h => h
theorem Reps.kz {W : Wd} {H H' : Hp} {S : Addr → Prop} {ob : Nat → Option Addr} (k : Kz H H') : ∀ (ds : List D) (vs : List V), Reps W H S ob ds vs → Reps W H' S ob ds vs
  | [], _, h => h
  | d :: ds, _, ⟨v, r, e, p, q⟩ => ⟨v, r, e, Rep.kz k d v p, Reps.kz k ds r q⟩
theorem RepK.kz {W : Wd} {H H' : Hp} {S : Addr → Prop} {ob : Nat → Option Addr} (k : Kz H H') : ∀ (ds : List (Key × D)) (vs : List (Key × V)), RepK W H S ob ds vs → RepK W H' S ob ds vs
  | [], _, h => h
  | (x, d) :: ds, _, ⟨v, r, e, p, q⟩ => ⟨v, r, e, Rep.kz k d v p, RepK.kz k ds r q⟩
theorem RepT.kz {W : Wd} {H H' : Hp} {S : Addr → Prop} {ob : Nat → Option Addr} (k : Kz H H') : ∀ (ds : List (List Key × D)) (vs : List (List Key × V)), RepT W H S ob ds vs → RepT W H' S ob ds vs
  | [], _, h => h
  | (x, d) :: ds, _, ⟨v, r, e, p, q⟩ => ⟨v, r, e, Rep.kz k d v p, RepT.kz k ds r q⟩
theorem RepF.kz {W : Wd} {H H' : Hp} {S : Addr → Prop} {ob : Nat → Option Addr} (k : Kz H H') : ∀ (ds : List (Str × D)) (vs : List (Str × V)), RepF W H S ob ds vs → RepF W H' S ob ds vs
  | [], _, h => h
  | (x, d) :: ds, _, ⟨v, r, e, p, q⟩ => ⟨v, r, e, Rep.kz k d v p, RepF.kz k ds r q⟩
end
theorem kz_frz {H : Hp} {d : Addr} {od : Obj} {u : HO} (hd : H d = some u) (hu : dct u = true) : Kz H (upd H d (.frz od u)) where
  l := fun a xs h => by rw [upd_ne (fun e => by rw [e, hd] at h; cases h; cases hu)]; exact h
  t := fun a xs h => by rw [upd_ne (fun e => by rw [e, hd] at h; cases h; cases hu)]; exact h
  i := fun a C dx fs h => by rw [upd_ne (fun e => by rw [e, hd] at h; cases h; cases hu)]; exact h
  dk := fun a vs h => by
    rcases h with h | ⟨o, h⟩
    · by_cases e : a = d
      · subst e
        rw [hd] at h
        cases h
        exact .inr ⟨od, upd_same⟩
      · exact .inl (by rw [upd_ne e]; exact h)
    · exact .inr ⟨o, by rw [upd_ne (fun e => by rw [e, hd] at h; cases h; cases hu)]; exact h⟩
  dt := fun a vs h => by
    rcases h with h | ⟨o, h⟩
    · by_cases e : a = d
      · subst e
        rw [hd] at h
        cases h
        exact .inr ⟨od, upd_same⟩
      · exact .inl (by rw [upd_ne e]; exact h)
    · exact .inr ⟨o, by rw [upd_ne (fun e => by rw [e, hd] at h; cases h; cases hu)]; exact h⟩
theorem kz_thaw {H : Hp} {d : Addr} {od : Obj} {u : HO} (hd : H d = some (.frz od u)) : Kz H (upd H d u) where
  l := fun a xs h => by rw [upd_ne (fun e => by rw [e, hd] at h; cases h)]; exact h
  t := fun a xs h => by rw [upd_ne (fun e => by rw [e, hd] at h; cases h)]; exact h
  i := fun a C dx fs h => by rw [upd_ne (fun e => by rw [e, hd] at h; cases h)]; exact h
  dk := fun a vs h => by
    rcases h with h | ⟨o, h⟩
    · exact .inl (by rw [upd_ne (fun e => by rw [e, hd] at h; cases h)]; exact h)
    · by_cases e : a = d
      · subst e
        rw [hd] at h
        cases h
        exact .inl upd_same
      · exact .inr ⟨o, by rw [upd_ne e]; exact h⟩
  dt := fun a vs h => by
    rcases h with h | ⟨o, h⟩
    · exact .inl (by rw [upd_ne (fun e => by rw [e, hd] at h; cases h)]; exact h)
    · by_cases e : a = d
      · subst e
        rw [hd] at h
        cases h
        exact .inl upd_same
      · exact .inr ⟨o, by rw [upd_ne e]; exact h⟩
section
variable {W : Wd} {F : Fm} {ρ : Env'} {ω : Store} {L : Lc} {σ : L2.St} {H : Hp} {d : Addr} {od : Obj} {u : HO}
theorem RepO.kz {H' : Hp} {S : Addr → Prop} {ob : Nat → Option Addr} (k : Kz H H') : ∀ {x : D} {a : Addr}, RepO W H S ob false x a → RepO W H' S ob false x a
  | .lst xs, a, ⟨vs, h, q⟩ => ⟨vs, k.l _ _ h, Reps.kz k xs vs q⟩
  | .dK xs, a, ⟨vs, h, q⟩ => ⟨vs, ⟨fun e => (nomatch e), k.dk _ _ h.2⟩, RepK.kz k xs vs q⟩
  | .dT xs, a, ⟨vs, h, q⟩ => ⟨vs, ⟨fun e => (nomatch e), k.dt _ _ h.2⟩, RepT.kz k xs vs q⟩
  | .non, _, h | .bl _, _, h | .int _, _, h | .str _, _, h | .tup _, _, h | .ctup _, _, h | .ins _ _, _, h | .obj _, _, h => h.elim
theorem SltR.kz {H' : Hp} {p : Pl} (k : Kz H H') : ∀ {x : Sl} {v : Option V}, SltR W H L p false x v → SltR W H' L p false x v
  | .no, _, _ => trivial
  | .val d, v, ⟨x, e, h⟩ => ⟨x, e, Rep.kz k d x h⟩
  | .own d, v, ⟨a, e, l, h⟩ => ⟨a, e, l, RepO.kz k h⟩
theorem FsR.kz {H' : Hp} {n : Nat} (k : Kz H H') : ∀ {fs : List (Str × Sl)} {vs : List (Str × V)}, FsR W H L n false fs vs → FsR W H' L n false fs vs
  | [], _, h => h
  | (f, x) :: r, _, ⟨v, t, e, h, q⟩ => ⟨v, t, e, SltR.kz k h, FsR.kz k q⟩
/-- the walked dict stands still; nothing known may change -/
theorem Rel.frz (R : Rel W F ρ ω L σ H) (hd : H d = some u) (hu : dct u = true) (hs : ∀ i, L (.sl i) ≠ some d) : Rel W ⟨ω.length, L, upd H d (.frz od u)⟩ ρ ω L σ (upd H d (.frz od u)) where
  inj := R.inj
  alive := fun p a e => by
    by_cases z : a = d
    · subst z
      refine ⟨_, upd_same, ?_⟩
      obtain ⟨v, h, c⟩ := R.alive p a e
      rw [hd] at h
      cases h
      exact c
    · obtain ⟨v, h, c⟩ := R.alive p a e
      exact ⟨v, by rw [upd_ne z]; exact h, c⟩
  aft := Aft.refl
  fgs := R.fgs
  len := R.len
  sl := fun i s e => by
    have k := kz_frz (od := od) hd hu
    have q := R.sl i s e
    cases s with
    | no => trivial
    | val x =>
      obtain ⟨v, e1, r⟩ := q
      exact ⟨v, e1, Rep.kz k x v r⟩
    | own x =>
      obtain ⟨a, e1, l, r⟩ := q
      have ne : a ≠ d := fun z => hs i (by rw [l, z])
      refine ⟨a, e1, l, ?_⟩
      cases x with
      | lst xs => obtain ⟨vs, h, q⟩ := r; exact ⟨vs, k.l _ _ h, Reps.kz k xs vs q⟩
      | dK xs => obtain ⟨vs, h, q⟩ := r; exact ⟨vs, .of (by rw [upd_ne ne]; exact h.1 rfl), RepK.kz k xs vs q⟩
      | dT xs => obtain ⟨vs, h, q⟩ := r; exact ⟨vs, .of (by rw [upd_ne ne]; exact h.1 rfl), RepT.kz k xs vs q⟩
      | _ => exact r.elim
  st := fun n o e => by
    have k := kz_frz (od := od) hd hu
    have hn : n < ω.length := (List.getElem?_eq_some_iff.mp e).1
    obtain ⟨p, C, dx, fs, e1, e2, e3, q⟩ := (R.st n o e).at_
    rw [show decide (ω.length ≤ n) = false from decide_eq_false (by omega)]
    exact ⟨p, C, dx, fs, e1, e2, k.i _ _ _ _ e3, FsR.kz k (FsR.exw (ex := decide (F.n0 ≤ n)) (ex' := false) (fun h => by cases h) q)⟩
  dom := R.dom
theorem walks_keys {kvs : List (Key × D)} {vs : List (Key × V)} (hk : vs.map (·.1) = kvs.map (·.1)) : WalksH W (Itk d od vs) (kvs.map fun kv => kD kv.1) (fun H => H d = some (.frz od (.dK vs))) where
  go := fun i H h hi => ⟨h, by
    have := congrArg List.length hk
    rw [List.length_map] at hi this
    rw [List.length_map] at this
    omega⟩
  yld := fun i H x H' h ⟨e1, k, v, e2, e3⟩ hi => by
    subst e1
    refine ⟨Same.refl _, kD k, ?_, fun S ob => ?_⟩
    · have h1 : (vs.map (·.1))[i]? = some k := by rw [List.getElem?_map, e2]; rfl
      rw [hk, List.getElem?_map] at h1
      rw [List.getElem?_map]
      cases z : kvs[i]? with
      | none => rw [z] at h1; cases h1
      | some q =>
        rw [z] at h1
        have : q.1 = k := Option.some.inj h1
        rw [← this]; rfl
    · rw [e3]
      cases k with
      | inl n => rfl
      | inr s => rfl
  stop := fun i H h hi => ⟨h, by
    have := congrArg List.length hk
    rw [List.length_map] at hi this
    rw [List.length_map] at this
    omega⟩
  same := fun H H' h s => s _ _ h
  hole := fun H z l ys h hz => by rw [upd_ne (fun e => by rw [← e, h] at hz; cases hz)]; exact h
theorem walks_keysT {kvs : List (List Key × D)} {vs : List (List Key × V)} (hk : vs.map (·.1) = kvs.map (·.1)) : WalksH W (Itkt d od vs) (kvs.map fun kv => .tup (kv.1.map kD)) (fun H => H d = some (.frz od (.dT vs))) where
  go := fun i H h hi => ⟨h, by
    have := congrArg List.length hk
    rw [List.length_map] at hi this
    rw [List.length_map] at this
    omega⟩
  yld := fun i H x H' h ⟨e1, k, v, q, e2, e3, e4⟩ hi => by
    subst e1
    refine ⟨Same.refl _, .tup (k.map kD), ?_, fun S ob => ⟨q, _, e3, e4, ?_⟩⟩
    · have h1 : (vs.map (·.1))[i]? = some k := by rw [List.getElem?_map, e2]; rfl
      rw [hk, List.getElem?_map] at h1
      rw [List.getElem?_map]
      cases z : kvs[i]? with
      | none => rw [z] at h1; cases h1
      | some q =>
        rw [z] at h1
        have : q.1 = k := Option.some.inj h1
        rw [← this]; rfl
    · have : ∀ l : List Key, Reps W H' S ob (l.map kD) (l.map kV) := by
        intro l
        induction l with
        | nil => rfl
        | cons a l ih => cases a <;> exact ⟨_, _, rfl, rfl, ih⟩
      exact this k
  stop := fun i H h hi => ⟨h, by
    have := congrArg List.length hk
    rw [List.length_map] at hi this
    rw [List.length_map] at this
    omega⟩
  same := fun H H' h s => s _ _ h
  hole := fun H z l ys h hz => by rw [upd_ne (fun e => by rw [← e, h] at hz; cases hz)]; exact h
/-- from the locked walk to the list -/
theorem leafF_thaw {Wx : WX} {B : List Nat} {Q : VK} {r : Res D} (hd : H d = some u) (hu : dct u = true) (hne : ∀ e, r ≠ .err e) (h : LeafF W Wx L B σ H Q r) : LeafF W Wx L B σ (upd H d (.frz od u)) (fun v H' => H' d = some (.frz od u) ∧ Q v (upd H' d u)) r := by
  cases r with
  | stuck => exact h
  | err e => exact absurd rfl (hne e)
  | ok x =>
    intro a H' s n q
    have hd' : H' d = some (.frz od u) := s _ _ upd_same
    refine ⟨hd', ?_⟩
    have ne : a ≠ d := fun z => by
      subst z
      rw [upd_same] at n; cases n
    have n' : H a = none := by rwa [upd_ne ne] at n
    have s' : Same H (upd H' d u) := fun b v e => by
      by_cases z : b = d
      · subst z
        rw [hd] at e
        rw [upd_same]; exact e
      · rw [upd_ne z]
        exact s b v (by rw [upd_ne z]; exact e)
    have k := kz_thaw hd'
    refine h a _ s' n' ?_
    cases x with
    | lst xs => obtain ⟨vs, h, q⟩ := q; exact ⟨vs, k.l _ _ h, Reps.kz k xs vs q⟩
    | dK xs => obtain ⟨vs, h, q⟩ := q; exact ⟨vs, .of (by rw [upd_ne ne]; exact h.1 rfl), RepK.kz k xs vs q⟩
    | dT xs => obtain ⟨vs, h, q⟩ := q; exact ⟨vs, .of (by rw [upd_ne ne]; exact h.1 rfl), RepT.kz k xs vs q⟩
    | _ => exact q.elim
end
section
variable {X : Cx} {Wx : WX} {pos spos p : Pos} {elt : Expr} {Be : List Nat} {i j : Nat} {x y f cl : Str} {scope : Scope} {tt : Env' → Store → Res Bool} {me : M} {ifs : List Expr} {tg : Expr}
/-- the walked dict, as a slot holds it -/
@[simp] def mCompK (i : Nat) (md : M) (tt : Env' → Store → Res Bool) (me : M) : M := fun ρ ω => if i < ρ.length then (match md ρ ω with
  | .ok (.dK kvs) => if kvs.length ≤ 1000 then (compL i tt me ω (demote [] ρ) (kvs.map fun kv => kD kv.1)).bind fun ys => .ok (.lst ys) else .stuck
  | _ => .stuck) else .stuck
@[simp] def mVal (i : Nat) : M := fun ρ _ => match ρ[i]? with
  | some (.val d) => .ok d
  | _ => .stuck
theorem PE.or {e : Expr} {t t' : TE} (h : PE X e t) (h' : PE X e t') : PE X e (fun σ H Q => t σ H Q ∨ t' σ H Q) := ⟨fun pins s σ H Q I q => q.elim (h.run pins s σ H Q I) (h'.run pins s σ H Q I)⟩
theorem bind_ne {r : Res (List D)} {e : Er} (h : r ≠ .err e) : (r.bind fun ys => Res.ok (D.lst ys)) ≠ .err e := fun z => by
  cases r with
  | stuck => cases z
  | ok x => cases z
  | err e' => cases z; exact h rfl
theorem f_lcK (hc : X.calm = true) (hN : X.N.Nodup) (ok : BlkOk X.N X.env.scope scope [(x, i)])
    (hg : ∀ (s : Shared) (H : Hp) (C : Addr) (cl : List (Str × Addr)) (fp : List Addr), PG (X.blk s H scope (compEnvC scope cl C X.env) fp) tg (gName i))
    (ht : ∀ (s : Shared) (H : Hp) (C : Addr) (cl : List (Str × Addr)) (fp : List Addr), DTs (X.blk s H scope (compEnvC scope cl C X.env) fp) W0 ifs tt)
    (he : ∀ (s : Shared) (H : Hp) (C : Addr) (cl : List (Str × Addr)) (fp : List Addr), DP (X.blk s H scope (compEnvC scope cl C X.env) fp) W0 Be elt me)
    (hj : X.N[j]? = some y := by rfl) (hv : Vis X.env.scope y := by first | exact Or.inl rfl | exact Or.inr (Or.inl rfl) | exact Or.inr (Or.inr rfl)) (hd : (y == ("__debug__" : Str)) = false := by decide) (hcd : (y == ("__classdict__" : Str)) = false := by decide)
    (hs : ∀ x, foldedSetIterable (.Name y p) X.env x = pure x := by intro _; rfl) :
    DF X Wx (i :: ([] ++ Be)) (.ListComp elt [⟨tg, .Name y p, ifs, 0⟩] scope pos) (mCompK i (mVal j) tt me) :=
  ⟨PE.weak (PE.or (pe_lock (pe_lc hc hN (pi_keys (pe_var (i := j) hj hv hd hcd)) ok hg (fun s H C cl fp => (ht s H C cl fp).pts) (fun s H C cl fp => (he s H C cl fp).pe) hs)) (pe_lc hc hN (pi_keys (pe_var (i := j) hj hv hd hcd)) ok hg (fun s H C cl fp => (ht s H C cl fp).pts) (fun s H C cl fp => (he s H C cl fp).pe) hs)) fun σ H Q ⟨F, ρ, ω, L, R, h⟩ => by
    unfold mCompK at h
    split at h
    case isFalse => exact h.elim
    rename_i hl
    unfold mVal at h
    cases ej : ρ[j]? with
    | none => rw [ej] at h; exact h.elim
    | some s =>
      cases s with
      | no => rw [ej] at h; exact h.elim
      | own d => rw [ej] at h; exact h.elim
      | val dv =>
        rw [ej] at h
        cases dv with
        | dK kvs =>
          replace h : LeafF (wd X) Wx L (i :: ([] ++ Be)) σ H Q (if kvs.length ≤ 1000 then (compL i tt me ω (demote [] ρ) (kvs.map fun kv => kD kv.1)).bind fun ys => .ok (.lst ys) else .stuck) := h
          split at h
          case isFalse => exact h.elim
          rename_i hlen
          obtain ⟨v, e1, a, vs, e2, fr, hr, rk⟩ := R.sl j _ ej
          subst e2
          have no : ∀ q, L q ≠ some a := fun q z => by
            obtain ⟨m, hm, _⟩ := fr q z
            cases hm
          rcases hr with hr | ⟨o, hr⟩
          · refine .inl ⟨a, .dK vs, hr, by first | trivial | rfl | exact True.intro, fun od => ?_⟩
            refine ⟨.ref a, slot_at e1, a, od, rfl, .inl ⟨vs, upd_same, fun z hz => ?_⟩⟩
            have R2 := R.frz (od := od) hr rfl (fun i => no _)
            exact lc_readH (Bi := []) R2 hl (by rw [List.length_map]; exact hlen) (walks_keys (repK_keys rk)) upd_same (leafF_thaw hr rfl (fun e => bind_ne compL_ne) h) z hz
          · exact .inr ⟨.ref a, slot_at e1, a, o, rfl, .inl ⟨vs, hr, fun z hz => lc_readH (Bi := []) R hl (by rw [List.length_map]; exact hlen) (walks_keys (repK_keys rk)) hr h z hz⟩⟩
        | _ => exact h.elim⟩
end
end DL
namespace DL
open PySem PySem.Spec PySem.Calls PyProof.Rows L2

/-! ### facts of classes, for the head -/
structure FldK (K : PySem.W.Frag) (mg : Str → Option Value) (c f : Str) : Prop where
  ok : ∀ C, mg c = some (.ref C) → Cls K C ∧ NoAttr K C f
theorem FldK.x {X : Cx} {c f : Str} (h : FldK X.K X.mg c f) : FldOk X c f := ⟨h.ok⟩
theorem fldK_of {K : PySem.W.Frag} {mg : Str → Option Value} {c f : Str} (hm : mg c = some (.ref (He.ga K c))) (h1 : Cls K (He.ga K c)) (h2 : NoAttr K (He.ga K c) f) : FldK K mg c f := ⟨fun C e => by
  rw [hm] at e
  cases e
  exact ⟨h1, h2⟩⟩
section
variable {P : Program} {w : World} {K : PySem.W.Frag} {mg : Str → Option Value} {base : Heap} {x c m qual : Str} {params : Arguments} {body : List Stmt} {scope : Scope} {f C : Addr} {fd : FuncData} {N ps : List Str} {k n : Nat} {g : T}
theorem mc_ok (F : FunD K x qual params body scope [] [] f fd) (S : FnScope N ps scope) (hm : mg c = some (.ref C)) (hc : Cls K C) (hmt : Meth K C m f) (hb : Binds K fd ps []) (hn : ps.length = n)
    (hbody : ∀ (cdv : Value) (A : Around) (outer : List Env) (s : Shared) (H : Hp) (E : XK), Room k (A.deeper (envOfC qual scope s.heap.objs.size f cdv)) → DSs (cxOf (L2.CX P w) P w K mg base N qual scope f cdv A outer s H E) (fun cls d _ H => E cls d H) body g) :
    Mc P w K mg base (k + 1) c m n (fuOf N.length g) := by
  subst hn
  exact ⟨C, f, fd, ps, hm, hc, hmt, hb, rfl, fn_ok F S hbody⟩
theorem kc_ok (F : FunD K x qual params body scope [] [] f fd) (S : FnScope N ps scope) (hm : mg c = some (.ref C)) (hmk : Mk K C f) (hb : Binds K fd ps []) (hn : ps.length = n)
    (hbody : ∀ (cdv : Value) (A : Around) (outer : List Env) (s : Shared) (H : Hp) (E : XK), Room k (A.deeper (envOfC qual scope s.heap.objs.size f cdv)) → DSs (cxOf (L2.CX P w) P w K mg base N qual scope f cdv A outer s H E) (fun cls d _ H => E cls d H) body g) :
    Kc P w K mg base (k + 1) c n (fuOf N.length g) := by
  subst hn
  exact ⟨C, f, fd, ps, hm, hmk, hb, rfl, fn_ok F S hbody⟩
end
/-! ### name = [.. for .. in a dict ..] -/
section
variable {X : Cx} {Wx : WX} {pos spos p py : Pos} {elt : Expr} {Be : List Nat} {i j i0 : Nat} {x y z f cl : Str} {scope : Scope} {tt : Env' → Store → Res Bool} {me : M} {ifs : List Expr} {tg : Expr}
theorem s_setLcK (hc : X.calm = true) (hN : X.N.Nodup) (hz : X.N[i0]? = some z) (hzl : X.env.scope.names.lookup z = some .local)
    (hsw : swapsWith (.ListComp elt [⟨tg, .Name y p, ifs, 0⟩] scope pos) (some (.Name z py)) spos.line X.env = pure true) (ok : BlkOk X.N X.env.scope scope [(x, i)])
    (hg : ∀ (s : Shared) (H : Hp) (C : Addr) (cl : List (Str × Addr)) (fp : List Addr), PG (X.blk s H scope (compEnvC scope cl C X.env) fp) tg (gName i))
    (ht : ∀ (s : Shared) (H : Hp) (C : Addr) (cl : List (Str × Addr)) (fp : List Addr), DTs (X.blk s H scope (compEnvC scope cl C X.env) fp) W0 ifs tt)
    (he : ∀ (s : Shared) (H : Hp) (C : Addr) (cl : List (Str × Addr)) (fp : List Addr), DP (X.blk s H scope (compEnvC scope cl C X.env) fp) W0 Be elt me)
    (hj : X.N[j]? = some y := by rfl) (hv : Vis X.env.scope y := by first | exact Or.inl rfl | exact Or.inr (Or.inl rfl) | exact Or.inr (Or.inr rfl)) (hd : (y == ("__debug__" : Str)) = false := by decide) (hcd : (y == ("__classdict__" : Str)) = false := by decide)
    (hs : ∀ x, foldedSetIterable (.Name y p) X.env x = pure x := by intro _; rfl) :
    DS X Wx (.Assign [.Name z py] (.ListComp elt [⟨tg, .Name y p, ifs, 0⟩] scope pos) spos) (sSetO i0 (i :: ([] ++ Be)) (mCompK i (mVal j) tt me)) :=
  ⟨⟨fun pins s σ H G I ⟨F, ρ, ω, L, R, h⟩ => by
    have core := ps_setLc (own := [(x, i)]) (tt := tT (wd X) W0 tt) (te := tP (wd X) W0 Be me) (g := gName i) hc hN hz hzl hsw (pi_keys (pe_var (i := j) hj hv hd hcd)) ok hg (fun s H C cl fp => (ht s H C cl fp).pts) (fun s H C cl fp => (he s H C cl fp).pe) hs
    unfold sSetO ofE mCompK at h
    split at h
    · exact h.elim
    · rename_i e he
      split at he
      · split at he
        · split at he
          · exact absurd he (bind_ne compL_ne)
          · cases he
        · cases he
      · cases he
    · rename_i d hd0
      split at hd0
      case isFalse => cases hd0
      rename_i hl
      unfold mVal at hd0
      cases ej : ρ[j]? with
      | none => rw [ej] at hd0; cases hd0
      | some sl =>
        cases sl with
        | no => rw [ej] at hd0; cases hd0
        | own d' => rw [ej] at hd0; cases hd0
        | val dv =>
          rw [ej] at hd0
          cases dv with
          | dK kvs =>
            replace hd0 : (if kvs.length ≤ 1000 then (compL i tt me ω (demote [] ρ) (kvs.map fun kv => kD kv.1)).bind fun ys => .ok (.lst ys) else .stuck) = Res.ok d := hd0
            split at hd0
            case isFalse => cases hd0
            rename_i hlen
            split at h
            case isFalse => exact h.elim
            rename_i hl0
            have fin : LeafF (wd X) Wx L (i :: ([] ++ Be)) σ H (fun x H1 => gName i0 x σ H1 G.nx) ((compL i tt me ω (demote [] ρ) (kvs.map fun kv => kD kv.1)).bind fun ys => .ok (.lst ys)) := by
              rw [hd0]
              intro a H' s' n r
              obtain ⟨L', R2⟩ := R.storeO s' (B := i :: ([] ++ Be)) hl0 n r
              exact h _ H' L' R2
            obtain ⟨v, e1, a, vs, e2, fr, hr, rk⟩ := R.sl j _ ej
            subst e2
            have no : ∀ q, L q ≠ some a := fun q z => by
              obtain ⟨m, hm, _⟩ := fr q z
              cases hm
            rcases hr with hr | ⟨o, hr⟩
            · refine (ps_lock core).run pins s σ H G I ⟨a, .dK vs, hr, by first | trivial | rfl | exact True.intro, fun od => ?_⟩
              refine ⟨.ref a, slot_at e1, a, od, rfl, .inl ⟨vs, upd_same, fun z hz => ?_⟩⟩
              have R2 := R.frz (od := od) hr rfl (fun i => no _)
              exact lc_readH (Bi := []) R2 hl (by rw [List.length_map]; exact hlen) (walks_keys (repK_keys rk)) upd_same (leafF_thaw hr rfl (fun e => bind_ne compL_ne) fin) z hz
            · refine core.run pins s σ H G I ⟨.ref a, slot_at e1, a, o, rfl, .inl ⟨vs, hr, fun z hz => lc_readH (Bi := []) R hl (by rw [List.length_map]; exact hlen) (walks_keys (repK_keys rk)) hr fin z hz⟩⟩
          | _ => cases hd0⟩⟩
end
end DL
noncomputable section
namespace DL
open PySem PySem.Spec PySem.Calls PyProof.Rows L2
/-! ### lists new since a call, changed and forgotten -/
section
variable {X : Cx} {pos p p2 apos cpos : Pos} {i : Nat} {x : Str} {n : Int} {jj : Nat}
theorem jb_app (i : Nat) (hN : X.N[i]? = some x := by rfl) (hv : Vis X.env.scope x := by first | exact Or.inl rfl | exact Or.inr (Or.inl rfl) | exact Or.inr (Or.inr rfl)) (hd : (x == ("__debug__" : Str)) = false := by decide)
    (hcd : (x == ("__classdict__" : Str)) = false := by decide)
    (hbase : attributeBase (.Name x p) "append" X.env (eval (.Name x p) X.env) = eval (.Name x p) X.env := by rfl)
    (hfew : ((backTo cpos (starEach (.Constant (.int n) jj p2 :: []) X.env)).all (fun x => !x.1) && (backToKw cpos (keywordEach [] X.env)).all (fun x => x.1.isSome)
      && decide ((Expr.Constant (.int n) jj p2 :: ([] : List Expr)).length + ([] : List Keyword).length + (if ([] : List Keyword).isEmpty then 0 else 1) < 30)) = true := by rfl)
    (hline : (apos.endLine == cpos.line) = true := by rfl) (hs : starEach (.Constant (.int n) jj p2 :: []) X.env = (false, eval (.Constant (.int n) jj p2) X.env) :: starEach [] X.env := by rfl) (hplain : (backTo cpos (starEach [] X.env)).any (·.1) = false := by rfl)
    (hsw : swapsWith (.Call (.Attribute (.Name x p) "append" apos) [.Constant (.int n) jj p2] [] cpos) none pos.line X.env = pure false := by rfl) :
    PS X (.Expr (.Call (.Attribute (.Name x p) "append" apos) [.Constant (.int n) jj p2] [] cpos) pos) (fun G σ H => ∃ a ys, σ[i]? = some (some (.ref a)) ∧ H a = some (.lst ys) ∧ ys.length < 1000000 ∧ G.nx σ (upd H a (.lst (ys ++ [.int n])))) :=
  PS.weak (ps_expr (pe_bm PySem.F.plainAttrs_list PySem.F.slot_list_append PySem.F.type_list_append mt_append (pe_var (i := i) hN hv hd hcd) (pa_cons pe_int pa_nil hs) hbase hfew hline hs hplain) hsw) fun G σ H ⟨a, ys, e, h, hl, g⟩ =>
    ⟨.ref a, e, .inl ⟨rfl, ys, SqL.of h⟩, a, ys, .int n, rfl, rfl, h, by rw [sizeLine_eq]; omega, g⟩
theorem jb_rev (i : Nat) (hN : X.N[i]? = some x := by rfl) (hv : Vis X.env.scope x := by first | exact Or.inl rfl | exact Or.inr (Or.inl rfl) | exact Or.inr (Or.inr rfl)) (hd : (x == ("__debug__" : Str)) = false := by decide)
    (hcd : (x == ("__classdict__" : Str)) = false := by decide)
    (hbase : attributeBase (.Name x p) "reverse" X.env (eval (.Name x p) X.env) = eval (.Name x p) X.env := by rfl) (hline : (apos.endLine == cpos.line) = true := by rfl)
    (hsw : swapsWith (.Call (.Attribute (.Name x p) "reverse" apos) [] [] cpos) none pos.line X.env = pure false := by rfl) :
    PS X (.Expr (.Call (.Attribute (.Name x p) "reverse" apos) [] [] cpos) pos) (fun G σ H => ∃ a ys, σ[i]? = some (some (.ref a)) ∧ H a = some (.lst ys) ∧ G.nx σ (upd H a (.lst ys.reverse))) :=
  PS.weak (ps_expr (pe_bm0 PySem.F.plainAttrs_list PySem.F.slot_list_reverse PySem.F.type_list_reverse mt_reverse (pe_var (i := i) hN hv hd hcd) hbase hline) hsw) fun G σ H ⟨a, ys, e, h, g⟩ =>
    ⟨.ref a, e, .inl ⟨rfl, ys, SqL.of h⟩, a, ys, rfl, rfl, h, g⟩
/-- what such a suite does: one list changes, by no more than one -/
structure JB (X : Cx) (i : Nat) (sts : List Stmt) : Prop where
  pss : PSs X sts (fun G σ H => ∃ a ys, σ[i]? = some (some (.ref a)) ∧ H a = some (.lst ys) ∧ ys.length < 1000000 ∧ ∀ ys', ys'.length ≤ ys.length + 1 → G.nx σ (upd H a (.lst ys')))
theorem PSs.weak' {sts : List Stmt} {t t' : TS} (h : PSs X sts t) (w : ∀ G σ H, t' G σ H → t G σ H) : PSs X sts t' := ⟨fun pins s σ H D I q => h.run pins s σ H D I (w D σ H q)⟩
theorem jb_one {st : Stmt} (h : PS X st (fun G σ H => ∃ a ys, σ[i]? = some (some (.ref a)) ∧ H a = some (.lst ys) ∧ ys.length < 1000000 ∧ G.nx σ (upd H a (.lst (ys ++ [.int n]))))) : JB X i [st] :=
  ⟨PSs.weak' (pss_one h) fun G σ H ⟨a, ys, e, h, hl, g⟩ => ⟨a, ys, e, h, hl, g _ (by rw [List.length_append]; exact Nat.le_refl _)⟩⟩
theorem jb_two {st st2 : Stmt} (h : PS X st (fun G σ H => ∃ a ys, σ[i]? = some (some (.ref a)) ∧ H a = some (.lst ys) ∧ ys.length < 1000000 ∧ G.nx σ (upd H a (.lst (ys ++ [.int n]))))) (h2 : PS X st2 (fun G σ H => ∃ a ys, σ[i]? = some (some (.ref a)) ∧ H a = some (.lst ys) ∧ G.nx σ (upd H a (.lst ys.reverse)))) : JB X i [st, st2] :=
  ⟨PSs.weak' (pss_cons h (pss_one h2)) fun G σ H ⟨a, ys, e, h, hl, g⟩ => ⟨a, ys, e, h, hl, a, ys ++ [.int n], e, upd_same, by
    have := g (ys ++ [V.int n]).reverse (by rw [List.length_reverse, List.length_append]; exact Nat.le_refl _)
    rw [upd_upd]
    exact this⟩⟩
end
/-- a list new since H0, no longer than n -/
def Nw (H0 H : Hp) (n : Nat) (v : V) : Prop := ∃ a ys, v = .ref a ∧ H0 a = none ∧ H a = some (.lst ys) ∧ ys.length ≤ n
def lens (ds : List D) : Option (List Nat) := ds.mapM fun d => match d with
  | .lst xs => some xs.length
  | _ => none
def NwL (H0 H : Hp) : List D → List V → Prop
  | [], vs => vs = []
  | d :: ds, vs => ∃ v r, vs = v :: r ∧ (match d with
    | .lst xs => Nw H0 H xs.length v
    | _ => True) ∧ NwL H0 H ds r
def Zf (H0 H : Hp) : D → V → Prop
  | .lst xs, v => Nw H0 H xs.length v
  | .tup ds, v => ∃ t vs, v = .ref t ∧ H t = some (.tup vs) ∧ NwL H0 H ds vs
  | _, _ => True
def small (d : D) : Bool := match d with
  | .lst xs => decide (xs.length ≤ 1000)
  | _ => false
theorem Nw.up {H0 H : Hp} {n k : Nat} {v : V} (h : Nw H0 H n v) (hk : n ≤ k) : Nw H0 H k v := by
  obtain ⟨a, ys, e1, e2, e3, e4⟩ := h
  exact ⟨a, ys, e1, e2, e3, Nat.le_trans e4 hk⟩
theorem NwL.all {H0 H : Hp} : ∀ {ds : List D} {vs : List V}, NwL H0 H ds vs → ds.all small = true → vs.length = ds.length ∧ ∀ v ∈ vs, Nw H0 H 1000 v
  | [], vs, h, _ => by rw [show vs = [] from h]; exact ⟨rfl, fun v hv => by cases hv⟩
  | d :: ds, vs, h, hs => by
    obtain ⟨v, r, e, h1, h2⟩ := h
    subst e
    rw [List.all_cons, Bool.and_eq_true] at hs
    obtain ⟨l, m⟩ := NwL.all h2 hs.2
    refine ⟨by rw [List.length_cons, List.length_cons, l], fun x hx => ?_⟩
    rcases List.mem_cons.mp hx with q | hx
    · rw [q]
      cases d with
      | lst xs => exact Nw.up h1 (of_decide_eq_true hs.1)
      | _ => cases hs.1
    · exact m x hx
section
variable {W : Wd} {F : Fm} {ρ : Env'} {ω : Store} {L : Lc} {σ : L2.St} {H : Hp} {i : Nat}
theorem Rel.junk (R : Rel W F ρ ω L σ H) (hi : i < ρ.length) (v : V) : Rel W F (ρ.set i .no) ω (lcS L i none) (σ.set i (some v)) H :=
  R.put (Same.refl H) hi (kp_none (Same.refl H)) (fun a e => by cases e) trivial
/-- the walk over such lists -/
theorem told_walk {tb : TS} {D : Ends} {J : It} {t : Addr} {u : HO} {vs : List V} (hb : ∀ (G : Ends) (σ : L2.St) (H : Hp), (∃ a ys, σ[i]? = some (some (.ref a)) ∧ H a = some (.lst ys) ∧ ys.length < 1000000 ∧ ∀ ys', ys'.length ≤ ys.length + 1 → G.nx σ (upd H a (.lst ys'))) → tb G σ H)
    (go : ∀ H' j, H' t = some u → j < vs.length → J.go j H') (yld : ∀ H' j x H'', H' t = some u → J.yld j H' x H'' → j < vs.length → H'' = H' ∧ vs[j]? = some x) (stop : ∀ H', H' t = some u → J.stop vs.length H')
    (hi : i < σ.length) (hne : 0 < vs.length) (hle : vs.length ≤ 1000) {H1 : Hp} (s : Same H H1) (ht : H1 t = some u) (hv : ∀ v ∈ vs, Nw H H1 1000 v ∧ v ≠ .ref t) (hend : ∀ H2 v, Same H H2 → D.nx (σ.set i (some v)) H2) :
    ∃ W : Nat → Nat → L2.St → Hp → Prop, (∃ m, W 0 m σ H1) ∧ ∀ i' m σ H, W i' m σ H →
      (J.stop i' H ∧ D.nx σ H) ∨ (J.go i' H ∧ ∃ N : L2.St → Hp → Prop, (∀ σ' H', N σ' H' → ∃ m', m' < m ∧ W (i' + 1) m' σ' H') ∧ ∀ x H', J.yld i' H x H' → gName i x σ H' fun σ2 H2 => tb { D with nx := N, ct := N, bk := D.nx } σ2 H2) := by
  refine ⟨fun j k σ' H' => k = vs.length - j ∧ j ≤ vs.length ∧ ((j = 0 ∧ σ' = σ) ∨ (0 < j ∧ ∃ v, σ' = σ.set i (some v))) ∧ Same H H' ∧ H' t = some u ∧ ∀ v ∈ vs, Nw H H' (1000 + j) v ∧ v ≠ .ref t,
    ⟨vs.length, by simp, Nat.zero_le _, .inl ⟨rfl, rfl⟩, s, ht, hv⟩, ?_⟩
  rintro j k σ' H' ⟨rfl, hj, hσ, s', ht', hv'⟩
  by_cases hlt : j < vs.length
  · refine .inr ⟨go H' j ht' hlt, fun σ2 H2 => (∃ v, σ2 = σ.set i (some v)) ∧ Same H H2 ∧ H2 t = some u ∧ ∀ v ∈ vs, Nw H H2 (1000 + (j + 1)) v ∧ v ≠ .ref t, fun σ2 H2 ⟨h1, h2, h3, h4⟩ => ⟨vs.length - (j + 1), by omega, rfl, hlt, .inr ⟨Nat.succ_pos _, h1⟩, h2, h3, h4⟩, fun x H'' y => ?_⟩
    obtain ⟨e1, e2⟩ := yld H' j x H'' ht' y hlt
    have e1 := e1.symm
    subst e1
    obtain ⟨⟨a, ys, q1, q2, q3, q4⟩, q5⟩ := hv' x (List.mem_iff_getElem?.mpr ⟨j, e2⟩)
    subst q1
    have hat : t ≠ a := fun z => q5 (by rw [z])
    have hset : σ'.set i (some (.ref a)) = σ.set i (some (.ref a)) := by
      rcases hσ with ⟨_, h⟩ | ⟨_, v, h⟩
      · rw [h]
      · rw [h, List.set_set]
    show tb _ (σ'.set i (some (.ref a))) H'
    rw [hset]
    refine hb _ _ _ ⟨a, ys, by rw [List.getElem?_set_self hi], q3, by omega, fun ys' hl => ⟨⟨_, rfl⟩, fun b w hw => ?_, by rw [upd_ne hat]; exact ht', fun v hvv => ?_⟩⟩
    · rw [upd_ne (fun z => by rw [z, q2] at hw; cases hw)]
      exact s' b w hw
    · obtain ⟨⟨b, zs, r1, r2, r3, r4⟩, r5⟩ := hv' v hvv
      refine ⟨?_, r5⟩
      by_cases z : b = a
      · subst z
        exact ⟨b, ys', r1, r2, upd_same, by omega⟩
      · exact ⟨b, zs, r1, r2, by rw [upd_ne z]; exact r3, by omega⟩
  · have e : j = vs.length := by omega
    subst e
    rcases hσ with ⟨h, _⟩ | ⟨_, v, h⟩
    · omega
    · subst h
      exact .inl ⟨stop H' ht', hend H' v s'⟩
end
/-! expressions whose value is new -/
def LeafZ (W : Wd) (Wx : WX) (σ : L2.St) (H : Hp) (Q : VK) : Res D → Prop
  | .stuck => False
  | .ok d => ∀ v H', Same H H' → Zf H H' d v → Q v H'
  | .err e => ∀ cls dd H', Same H H' → Exc W H' e cls dd → Wx cls dd σ H'
def tZ (W : Wd) (Wx : WX) (m : M) : TE := fun σ H Q => ∃ F ρ ω L, Rel W F ρ ω L σ H ∧ LeafZ W Wx σ H Q (m ρ ω)
structure DZ (X : Cx) (Wx : WX) (e : Expr) (m : M) : Prop where
  pe : PE X e (tZ (wd X) Wx m)
section
variable {X : Cx} {Wx : WX} {pos p : Pos} {e a b : Expr} {m ma mb : M} {B Ba Bb : List Nat} {i : Nat} {x : Str} {sts : List Stmt}
theorem Reps.len' {W : Wd} {H : Hp} {S : Addr → Prop} {ob : Nat → Option Addr} {ds : List D} {vs : List V} (h : Reps W H S ob ds vs) : vs.length = ds.length := h.len
theorem z_df (h : DF X Wx B e m) : DZ X Wx e m :=
  ⟨PE.weak h.pe fun σ H Q ⟨F, ρ, ω, L, R, h⟩ => ⟨F, ρ, ω, L, R, by
    cases z : m ρ ω with
    | stuck => rw [z] at h; exact h
    | err x => rw [z] at h; exact h
    | ok d =>
      rw [z] at h
      intro a H' s hn r
      refine h (.ref a) H' s ?_
      cases d with
      | lst xs =>
        obtain ⟨vs, h1, q⟩ := r
        exact ⟨a, vs, rfl, hn, h1, by rw [q.len]; exact Nat.le_refl _⟩
      | tup ds => exact r.elim
      | _ => trivial⟩⟩
/-- for x in (new lists): they change -/
def sTold (i : Nat) (m : M) : T := fun _ ρ ω => match m ρ ω with
  | .ok (.tup ds) => if i < ρ.length ∧ 0 < ds.length ∧ ds.length ≤ 1000 ∧ ds.all small = true then .nx (ρ.set i .no) ω else .stuck
  | _ => .stuck
theorem s_told (hp : PassesOwn (model X.prog X.w) X.A X.env X.xe) (hc : X.calm = true) (hN : X.N.Nodup) (hi : X.N[i]? = some x) (hx : Loc X.env.scope x) (he : DZ X Wx e m) (hb : JB X i sts)
    (hs : ∀ x, foldedSetIterable e X.env x = pure x := by intro _; rfl) (hf : X.fn x = true ∨ X.env.scope.names.lookup x = some .local := by first | exact .inl rfl | exact .inr rfl | assumption) : DS X Wx (.For (.Name x p) e sts [] pos) (sTold i m) :=
  ⟨PS.weak (ps_for hp hc (pi_tup he.pe) (pg_name hN hi hx hf) hb.pss hs) fun G σ H ⟨F, ρ, ω, L, R, h⟩ => by
    refine ⟨F, ρ, ω, L, R, ?_⟩
    unfold sTold at h
    cases z : m ρ ω with
    | stuck => rw [z] at h; exact h
    | err e => rw [z] at h; exact h.elim
    | ok d =>
      rw [z] at h
      cases d with
      | tup ds =>
        replace h : LeafS (wd X) Wx F G (if i < ρ.length ∧ 0 < ds.length ∧ ds.length ≤ 1000 ∧ ds.all small = true then .nx (ρ.set i .no) ω else .stuck) := h
        split at h
        case isFalse => exact h.elim
        rename_i hh
        obtain ⟨h1, h2, h3, h4⟩ := hh
        intro v H1 s q
        obtain ⟨t, vs, e1, e2, e3⟩ := q
        obtain ⟨l1, l2⟩ := e3.all h4
        refine ⟨t, e1, ⟨vs, SqT.of e2⟩, ?_⟩
        have uq : ∀ {H' : Hp}, H' t = some (.tup vs) → SqT X.K H' t vs := fun h => SqT.of h
        refine told_walk (J := Itt X.K t) (t := t) (u := .tup vs) (vs := vs) (fun G σ H h => h) (fun H' j ht hj => ⟨vs, vs[j], uq ht, List.getElem?_eq_getElem hj⟩) (fun H' j x H'' ht y hj => ⟨y.1, y.2 vs (uq ht)⟩) (fun H' ht => ⟨vs, uq ht, Nat.le_refl _⟩) (by rw [R.len]; exact h1) (by omega) (by omega) s e2
          (fun v hv => ⟨l2 v hv, fun q => by
            obtain ⟨a, ys, q1, _, q3, _⟩ := l2 v hv
            rw [q] at q1
            cases q1
            rw [e2] at q3; cases q3⟩) (fun H2 v s2 => h _ _ _ ((R.same s2).junk h1 v))
      | _ => exact h.elim⟩
end
/-! suites that return what is new -/
def LeafSZ (W : Wd) (Wx : WX) (F : Fm) (G : Ends) : RS → Prop
  | .rt d ω => ∀ v ρ σ H L, Rel W F ρ ω L σ H → Zf F.H0 H d v → G.rt v H
  | .er e ω => ∀ cls dd ρ σ H L, Rel W F ρ ω L σ H → Exc W H e cls dd → Wx cls dd σ H
  | .nx ρ ω => ∀ σ H L, Rel W F ρ ω L σ H → G.nx σ H
  | _ => False
def tSZ (W : Wd) (Wx : WX) (m : T) : TS := fun G σ H => ∃ F ρ ω L, Rel W F ρ ω L σ H ∧ LeafSZ W Wx F G (m F.n0 ρ ω)
structure DSsZ (X : Cx) (Wx : WX) (st : List Stmt) (m : T) : Prop where
  pss : PSs X st (tSZ (wd X) Wx m)
theorem Nw.back {H0 H H' : Hp} {n : Nat} {v : V} (f : ∀ a, H a = none → H0 a = none) (h : Nw H H' n v) : Nw H0 H' n v := by
  obtain ⟨a, ys, e1, e2, e3, e4⟩ := h
  exact ⟨a, ys, e1, f a e2, e3, e4⟩
theorem NwL.back {H0 H H' : Hp} (f : ∀ a, H a = none → H0 a = none) : ∀ {ds : List D} {vs : List V}, NwL H H' ds vs → NwL H0 H' ds vs
  | [], _, h => h
  | d :: ds, _, ⟨v, r, e, h1, h2⟩ => ⟨v, r, e, by
    cases d with
    | lst xs => exact Nw.back f h1
    | _ => trivial, NwL.back f h2⟩
theorem Zf.back {H0 H H' : Hp} (f : ∀ a, H a = none → H0 a = none) {d : D} {v : V} (h : Zf H H' d v) : Zf H0 H' d v := by
  cases d with
  | lst xs => exact Nw.back f h
  | tup ds =>
    obtain ⟨t, vs, e1, e2, e3⟩ := h
    exact ⟨t, vs, e1, e2, NwL.back f e3⟩
  | _ => trivial
theorem Nw.keep {H0 H H' : Hp} {n : Nat} {v : V} (s : Same H H') (h : Nw H0 H n v) : Nw H0 H' n v := by
  obtain ⟨a, ys, e1, e2, e3, e4⟩ := h
  exact ⟨a, ys, e1, e2, s a _ e3, e4⟩
section
variable {X : Cx} {Wx : WX} {pos p : Pos} {e a b : Expr} {m ma mb : M} {B Ba Bb : List Nat} {i : Nat} {x : Str} {st : Stmt} {sts : List Stmt} {t u : T}
theorem zs_ret (he : DZ X Wx e m) : DSsZ X Wx [.Return (some e) pos] (sRet m) :=
  ⟨PSs.weak' (pss_one (ps_ret he.pe)) fun G σ H ⟨F, ρ, ω, L, R, h⟩ => ⟨F, ρ, ω, L, R, by
    unfold sRet at h
    cases z : m ρ ω with
    | stuck => rw [z] at h; exact h
    | err e => rw [z] at h; exact fun cls dd H' s x => h cls dd ρ σ H' L (R.same s) x
    | ok d => rw [z] at h; exact fun v H' s q => h v ρ σ H' L (R.same s) (q.back fun a => R.aft.fresh)⟩⟩
@[simp] def sqZ (m1 m2 : T) : T := fun n0 ρ ω => match m1 n0 ρ ω with
  | .nx ρ' ω' => m2 n0 ρ' ω'
  | .er e ω' => .er e ω'
  | _ => .stuck
theorem zs_cons (ha : DS X Wx st t) (hb : DSsZ X Wx sts u) : DSsZ X Wx (st :: sts) (sqZ t u) :=
  ⟨PSs.weak' (pss_cons ha.ps hb.pss) fun G σ H ⟨F, ρ, ω, L, R, h⟩ => ⟨F, ρ, ω, L, R, by
    unfold sqZ at h
    cases z : t F.n0 ρ ω with
    | stuck => rw [z] at h; exact h
    | nx ρ' ω' => rw [z] at h; exact fun σ' H' L' R' => ⟨F, ρ', ω', L', R', h⟩
    | er e ω' => rw [z] at h; exact h
    | rt d ω' => rw [z] at h; exact h.elim
    | bk ρ' ω' => rw [z] at h; exact h.elim
    | ct ρ' ω' => rw [z] at h; exact h.elim⟩⟩
/-- two new lists in a tuple -/
@[simp] def mTwo (ma mb : M) : M := fun ρ ω => match ma ρ ω, mb ρ ω with
  | .ok (.lst xs), .ok (.lst ys) => .ok (.tup [.lst xs, .lst ys])
  | _, _ => .stuck
theorem z_two {k : Nat} (ha : DZ X Wx a ma) (hb : DZ X Wx b mb) (hs : starEach [a, b] X.env = (false, eval a X.env) :: starEach [b] X.env := by rfl) (hs2 : starEach [b] X.env = (false, eval b X.env) :: starEach [] X.env := by rfl) : DZ X Wx (.Tuple [a, b] k pos) (mTwo ma mb) :=
  ⟨PE.weak (pe_tup (pa_cons ha.pe (pa_cons hb.pe pa_nil hs2) hs)) fun σ H Q ⟨F, ρ, ω, L, R, h⟩ => by
    unfold mTwo at h
    refine ⟨F, ρ, ω, L, R, ?_⟩
    cases za : ma ρ ω with
    | stuck => rw [za] at h; exact h.elim
    | err e => rw [za] at h; exact h.elim
    | ok d1 =>
      rw [za] at h
      intro v H1 s1 q1
      refine ⟨F, ρ, ω, L, R.same s1, ?_⟩
      cases zb : mb ρ ω with
      | stuck => rw [zb] at h; cases d1 <;> exact h.elim
      | err e => rw [zb] at h; cases d1 <;> exact h.elim
      | ok d2 =>
        rw [zb] at h
        intro w H2 s2 q2
        cases d1 with
        | lst xs =>
          cases d2 with
          | lst ys =>
            refine ⟨by show 2 ≤ sizeLine; decide, fun z hz => ?_⟩
            have sm := same_upd (o := .tup [v, w]) hz
            refine h (.ref z) _ ((s1.trans s2).trans sm) ⟨z, [v, w], rfl, upd_same, v, [w], rfl, Nw.keep sm (Nw.keep s2 q1), w, [], rfl, ?_, rfl⟩
            refine Nw.keep sm (Nw.back (fun a hn => ?_) q2)
            cases e : H a with
            | none => rfl
            | some u => rw [s1 a u e] at hn; cases hn
          | _ => exact h.elim
        | _ => exact h.elim⟩
end
/-! a def's promise of what is new -/
def LeafCZ (W : Wd) (F : Fm) (Q : VK) (E : XK) : RR → Prop
  | .stuck => False
  | .ok d ω => ∀ v H' L', Rel W F [] ω L' [] H' → NoSl L' → Zf F.H0 H' d v → Q v H'
  | .er e ω => ∀ cls dd H' L', Rel W F [] ω L' [] H' → NoSl L' → Exc W H' e cls dd → E cls dd H'
def spZ (W : Wd) (n : Nat) (f : Fu) : Sp := fun vs H Q E => vs.length = n ∧ ∃ n0 L ω ds, Rel W ⟨n0, L, H⟩ [] ω L [] H ∧ NoSl L ∧ Reps W H (Fr L []) (obs L) ds vs ∧ LeafCZ W ⟨n0, L, H⟩ Q E (f n0 ds ω)
section
variable {P : Program} {w : World} {K : PySem.W.Frag} {mg : Str → Option Value} {base : Heap} {x c m qual : Str} {params : Arguments} {body : List Stmt} {scope : Scope} {f C : Addr} {fd : FuncData} {N ps : List Str} {k n : Nat} {g : T}
theorem fnz_ok (F : FunD K x qual params body scope [] [] f fd) (S : FnScope N ps scope)
    (hbody : ∀ (cdv : Value) (A : Around) (outer : List Env) (s : Shared) (H : Hp) (E : XK), Room k (A.deeper (envOfC qual scope s.heap.objs.size f cdv)) →
      DSsZ (cxOf (L2.CX P w) P w K mg base N qual scope f cdv A outer s H E) (fun cls d _ H => E cls d H) body g) : FnOk P w K mg base (L2.CX P w) (k + 1) f fd ps (spZ ⟨K, mg⟩ ps.length (fuOf N.length g)) := by
  refine F.ok S (fun vs H Q E h => h.1) (fun cdv A outer s H vs Q E hr h => ⟨_, (hbody cdv A outer s H E hr).pss, ?_⟩)
  obtain ⟨hl, n0, L, ω, ds, R, ns, q, h⟩ := h
  refine ⟨⟨n0, L, H⟩, envS N.length ds, ω, L, R.begin q, ?_⟩
  replace h : LeafCZ ⟨K, mg⟩ ⟨n0, L, H⟩ Q E (toRR (g n0 (envS N.length ds) ω)) := h
  show LeafSZ ⟨K, mg⟩ _ _ _ (g n0 (envS N.length ds) ω)
  cases z : g n0 (envS N.length ds) ω with
  | stuck => rw [z] at h; exact h
  | bk ρ ω => rw [z] at h; exact h.elim
  | ct ρ ω => rw [z] at h; exact h.elim
  | nx ρ' ω' => rw [z] at h; exact fun σ' H' L' R' => h .non H' _ R'.strip lcN_no trivial
  | rt d ω' => rw [z] at h; exact fun v ρ' σ' H' L' R' r => h _ H' _ R'.strip lcN_no r
  | er e ω' => rw [z] at h; exact fun cls dd ρ' σ' H' L' R' r => h _ _ H' _ R'.strip lcN_no r
end
structure FcZ (P : Program) (w : World) (K : PySem.W.Frag) (mg : Str → Option Value) (base : Heap) (k : Nat) (x : Str) (n : Nat) (g : Fu) : Prop where
  ex : ∃ f fd ps, mg x = some (.ref f) ∧ PySem.W.keepIn K (.ref f) = true ∧ Binds K fd ps [] ∧ ps.length = n ∧ FnOk P w K mg base (L2.CX P w) k f fd ps (spZ ⟨K, mg⟩ n g)
structure McZ (P : Program) (w : World) (K : PySem.W.Frag) (mg : Str → Option Value) (base : Heap) (k : Nat) (c m : Str) (n : Nat) (g : Fu) : Prop where
  ex : ∃ C f fd ps, mg c = some (.ref C) ∧ Cls K C ∧ Meth K C m f ∧ Binds K fd ps [] ∧ ps.length = n ∧ FnOk P w K mg base (L2.CX P w) k f fd ps (spZ ⟨K, mg⟩ n g)
section
variable {P : Program} {w : World} {K : PySem.W.Frag} {mg : Str → Option Value} {base : Heap} {x c m qual : Str} {params : Arguments} {body : List Stmt} {scope : Scope} {f C : Addr} {fd : FuncData} {N ps : List Str} {k n : Nat} {g : T}
theorem fcz_ok (F : FunD K x qual params body scope [] [] f fd) (S : FnScope N ps scope) (hm : mg x = some (.ref f)) (hb : Binds K fd ps []) (hn : ps.length = n)
    (hbody : ∀ (cdv : Value) (A : Around) (outer : List Env) (s : Shared) (H : Hp) (E : XK), Room k (A.deeper (envOfC qual scope s.heap.objs.size f cdv)) → DSsZ (cxOf (L2.CX P w) P w K mg base N qual scope f cdv A outer s H E) (fun cls d _ H => E cls d H) body g) :
    FcZ P w K mg base (k + 1) x n (fuOf N.length g) := by
  subst hn
  exact ⟨f, fd, ps, hm, F.kp, hb, rfl, fnz_ok F S hbody⟩
theorem mcz_ok (F : FunD K x qual params body scope [] [] f fd) (S : FnScope N ps scope) (hm : mg c = some (.ref C)) (hc : Cls K C) (hmt : Meth K C m f) (hb : Binds K fd ps []) (hn : ps.length = n)
    (hbody : ∀ (cdv : Value) (A : Around) (outer : List Env) (s : Shared) (H : Hp) (E : XK), Room k (A.deeper (envOfC qual scope s.heap.objs.size f cdv)) → DSsZ (cxOf (L2.CX P w) P w K mg base N qual scope f cdv A outer s H E) (fun cls d _ H => E cls d H) body g) :
    McZ P w K mg base (k + 1) c m n (fuOf N.length g) := by
  subst hn
  exact ⟨C, f, fd, ps, hm, hc, hmt, hb, rfl, fnz_ok F S hbody⟩
end
theorem LeafZ.later {W : Wd} {Wx : WX} {σ : L2.St} {H H1 : Hp} {Q : VK} {r : Res D} (s : Same H H1) (h : LeafZ W Wx σ H Q r) : LeafZ W Wx σ H1 Q r := by
  cases r with
  | stuck => exact h
  | ok d => exact fun v H' s' q => h v H' (s.trans s') (q.back fun a hn => by
      cases e : H a with
      | none => rfl
      | some u => rw [s a u e] at hn; cases hn)
  | err e => exact fun cls dd H' s' x => h cls dd H' (s.trans s') x
theorem meth_readZ {W : Wd} {Wx : WX} {F : Fm} {ρ : Env'} {ω : Store} {L : Lc} {σ : L2.St} {H : Hp} {Q : VK} {B : List Nat} {ds : List D} {vs : List V} {n : Nat} {g : Fu} (R : Rel W F ρ ω L σ H) (q : Reps W H (Fr L B) (obs L) ds vs) (h : LeafZ W Wx σ H Q (if ds.length = n then ofRR ω (g ω.length ds ω) else .stuck)) : spZ W n g vs H Q (fun c d H => Wx c d σ H) := by
  split at h
  case isFalse => exact h.elim
  rename_i hds
  refine ⟨by rw [q.len, hds], ω.length, lcC L B, ω, ds, R.into B ω.length (fun n h1 h2 => absurd h1 (Nat.not_lt.mpr h2)), lcC_no, Reps.mono kp_call ds vs q, ?_⟩
  cases zg : g ω.length ds ω with
  | stuck => rw [zg] at h; exact h
  | er e ω' =>
    rw [zg] at h
    exact fun cls dd H2 L' R' ns x => h cls dd H2 (call_keep R R' (Nat.le_refl _)) x
  | ok d ω' =>
    rw [zg] at h
    replace h : LeafZ W Wx σ H Q (if ω'.length = ω.length then .ok d else .stuck) := h
    split at h
    · rename_i hl
      exact fun v H2 L' R' ns r => h v H2 (call_keep R R' (Nat.le_refl _)) r
    · exact h.elim
section
variable {X : Cx} {Wx : WX} {pos p p' apos : Pos} {o e : Expr} {es : List Expr} {m mo : M} {mr : MA} {B Bo : List Nat} {i j k n : Nat} {x cl mt : Str} {g : Fu}
theorem z_meth (cc : McZ X.prog X.w X.K X.mg X.base j cl mt n g) (hr : Room k X.A) (tk : Takes X Wx) (ho : DU X Wx Bo o mo) (ha : DA X Wx B (e :: es) mr) (hj : j ≤ k := by decide) {pl : Sem Bool}
    (hst : starEach (e :: es) X.env = (false, eval e X.env) :: starEach es X.env := by rfl) (hpl : (backTo pos (starEach es X.env)).any (·.1) = false := by rfl)
    (ht : eval (.Call (.Attribute o mt apos) (e :: es) [] pos) X.env = (do
      let ov ← eval o X.env
      standAt apos.atName
      let (f, first) ← holding [ov] (getMethod ov mt pl)
      callWith pos f first (backTo pos (starEach (e :: es) X.env)) (backToKw pos (keywordEach [] X.env))) := by rfl) : DZ X Wx (.Call (.Attribute o mt apos) (e :: es) [] pos) (mMeth cl mt n g mo mr) := by
  obtain ⟨C, fa, fd, ps, h1, h2, h3, h4, rfl, h6⟩ := cc.ex
  refine ⟨PE.weak (pe_methSD (pl := pl) ho.pe h2 h3 (h6.mono hj) hr h4 .nil (passAt tk) ha.pa hst hpl ht) fun σ H Q ⟨F, ρ, ω, L, R, h⟩ => ?_⟩
  refine ⟨F, ρ, ω, L, R, ?_⟩
  unfold mMeth at h
  cases z : mo ρ ω with
  | stuck => rw [z] at h; exact h
  | err e => rw [z] at h; exact h
  | ok d =>
    rw [z] at h
    intro v H1 s q
    replace h : LeafZ (wd X) Wx σ H Q (if recv cl mt ω d = true then (mr ρ ω).bind fun ds => if ds.length + 1 = ps.length then ofRR ω (g ω.length (d :: ds) ω) else .stuck else .stuck) := h
    have R1 := R.same s
    split at h
    case isFalse => exact h.elim
    rename_i hrv
    obtain ⟨nn, a, dx, fs, e1, e2, e3, e4, e5⟩ := recv_ok R1 hrv h1 q
    subst e1 e3
    refine ⟨a, dx, fs, rfl, e4, e5, F, ρ, ω, L, R1, ?_⟩
    cases zr : mr ρ ω with
    | stuck => rw [zr] at h; exact h
    | err e => rw [zr] at h; exact fun c d H' s' x => h c d H' (s.trans s') x
    | ok ds =>
      rw [zr] at h
      intro vs H2 s2 q2
      rw [List.append_nil]
      exact meth_readZ (ds := .obj nn :: ds) (R1.same s2) ⟨_, _, rfl, ⟨a, e2, rfl⟩, q2⟩ (h.later (s.trans s2))
theorem z_meth0 (cc : McZ X.prog X.w X.K X.mg X.base j cl mt n g) (hr : Room k X.A) (tk : Takes X Wx) (ho : DU X Wx Bo o mo) (hj : j ≤ k := by decide) {pl : Sem Bool}
    (ht : eval (.Call (.Attribute o mt apos) [] [] pos) X.env = (do
      let ov ← eval o X.env
      standAt apos.atName
      let (f, first) ← holding [ov] (getMethod ov mt pl)
      callWith pos f first (backTo pos (starEach [] X.env)) (backToKw pos (keywordEach [] X.env))) := by rfl) : DZ X Wx (.Call (.Attribute o mt apos) [] [] pos) (mMeth cl mt n g mo aNil) := by
  obtain ⟨C, fa, fd, ps, h1, h2, h3, h4, rfl, h6⟩ := cc.ex
  refine ⟨PE.weak (pe_methSD0 (pl := pl) ho.pe h2 h3 (h6.mono hj) hr h4 .nil (passAt tk) ht) fun σ H Q ⟨F, ρ, ω, L, R, h⟩ => ?_⟩
  refine ⟨F, ρ, ω, L, R, ?_⟩
  unfold mMeth at h
  cases z : mo ρ ω with
  | stuck => rw [z] at h; exact h
  | err e => rw [z] at h; exact h
  | ok d =>
    rw [z] at h
    intro v H1 s q
    replace h : LeafZ (wd X) Wx σ H Q (if recv cl mt ω d = true then (if ([] : List D).length + 1 = ps.length then ofRR ω (g ω.length (d :: []) ω) else .stuck) else .stuck) := h
    have R1 := R.same s
    split at h
    case isFalse => exact h.elim
    rename_i hrv
    obtain ⟨nn, a, dx, fs, e1, e2, e3, e4, e5⟩ := recv_ok R1 hrv h1 q
    subst e1 e3
    refine ⟨a, dx, fs, rfl, e4, e5, ?_⟩
    exact meth_readZ (B := []) (ds := [.obj nn]) R1 ⟨_, _, rfl, ⟨a, e2, rfl⟩, rfl⟩ (h.later s)
theorem z_callF (c : FcZ X.prog X.w X.K X.mg X.base j x n g) (hr : Room k X.A) (tk : Takes X Wx) (ha : DA X Wx B (e :: es) mr) (hg : Gl X x := by rfl) (hj : j ≤ k := by decide) (hdb : (x == ("__debug__" : Str)) = false := by decide)
    (he : starEach (e :: es) X.env = (false, eval e X.env) :: starEach es X.env := by rfl) (hpl : (backTo pos (starEach es X.env)).any (·.1) = false := by rfl) : DZ X Wx (.Call (.Name x p) (e :: es) [] pos) (mCall n g mr) := by
  obtain ⟨f, fd, ps, h1, h2, h3, rfl, h5⟩ := c.ex
  refine ⟨PE.weak (pe_callSD (h5.mono hj) hr hg h1 h2 h3 .nil (passAt tk) ha.pa hdb he hpl) fun σ H Q ⟨F0, ρ, ω, L, R, h⟩ => ?_⟩
  refine ⟨F0, ρ, ω, L, R, ?_⟩
  unfold mCall at h
  cases z : mr ρ ω with
  | stuck => rw [z] at h; exact h
  | err e => rw [z] at h; exact h
  | ok ds =>
    rw [z] at h
    intro vs H1 s q
    rw [List.append_nil]
    exact meth_readZ (R.same s) q (LeafZ.later s h)
end
section
variable {X : Cx} {Wx : WX} {pos p np rp pos' : Pos} {e : Expr} {i : Nat} {x : Str}
/-- a suite that returns what is new, and raises nothing -/
@[simp] def sTryZ (mb : T) : T := fun n0 ρ ω => match mb n0 ρ ω with
  | .rt d ω' => .rt d ω'
  | _ => .stuck
theorem zs_try {c : Value} {n : Str} {body : List Stmt} {mb : T} {g : Er → Option D} (cs : List Str) (hit : Str → Bool) (hN : X.N.Nodup) (hi : X.N[i]? = some n) (hln : X.env.kindOf n = some .local) (hc : Names X x c) (tk : Takes X Wx) (T : ∀ k ∈ cs, ∀ C, X.mg k = some (.ref C) → PySem.W.exmOne X.K (.ref C) c = some (hit k))
    (hb : ∀ (W : WX) (pn : List (Addr × Obj)) (xe : Value → Shared → Prop), Takes (X.tr pn xe) W → PassesOwn (model X.prog X.w) X.A X.env xe → DSsZ (X.tr pn xe) W body mb) (he : DE X i e g) (hs : X.stack = X.env :: X.outer := by rfl) (hf : X.env.frame = some X.env.locals := by rfl) :
    DSsZ X Wx [.Try body [.ExceptHandler (some (.Name x np)) (some n) [.Return (some e) rp] pos'] [] [] pos] (sTryZ mb) := by
  obtain ⟨te, h1, h2⟩ := he.ex
  refine ⟨PSs.weak' (pss_one (ps_try_as (tb := fun W => tSZ (wd X) W mb) (ts := fun a cls d D σ H => σ.length = X.N.length → tRet (te a cls d) D σ H) hs hf hN hi hln hc tk (fun W pn xe tk' hp => (hb W pn xe tk' hp).pss) fun a oe cls d pn hz hff => ⟨fun pins s σ H D I q => (pss_one (ps_ret (h1 a oe cls d pn hz hff))).run pins s σ H D I (q I.len)⟩)) fun G σ H ⟨F, ρ, ω, L, R, h⟩ => ⟨F, ρ, ω, L, R, ?_⟩⟩
  unfold sTryZ at h
  cases zb : mb F.n0 ρ ω with
  | stuck => rw [zb] at h; exact h
  | nx ρ' ω' => rw [zb] at h; exact h.elim
  | rt d ω' => rw [zb] at h; exact h
  | bk ρ' ω' => rw [zb] at h; exact h.elim
  | ct ρ' ω' => rw [zb] at h; exact h.elim
  | er er ω' => rw [zb] at h; exact h.elim
end
end DL
noncomputable section
namespace DL
open PySem PySem.Spec PySem.Calls PyProof.Rows L2
/-! ### sorted of pairs whose first parts rise -/
def fstI : D → Option Int
  | .tup [.int i, .int _] => some i
  | _ => none
def overI (i : Int) (e : D) : Bool := match fstI e with
  | some j => decide (i < j)
  | none => false
def rises : List D → Bool
  | [] => true
  | d :: r => (match fstI d with
    | some i => r.all (overI i)
    | none => false) && rises r
def gSortP : D → Res D
  | .lst xs => if rises xs = true then .ok (.lst xs) else .stuck
  | _ => .stuck
def keyP (H : Hp) (v : V) : Int × Int := match v with
  | .ref t => (match H t with
    | some (.tup [.int i, .int j]) => (i, j)
    | _ => (0, 0))
  | _ => (0, 0)
section
variable {W : Wd} {H : Hp} {S : Addr → Prop} {ob : Nat → Option Addr}
theorem fst_rep {d : D} {v : V} {i : Int} (e : fstI d = some i) (h : Rep W H S ob d v) : ∃ t, v = .ref t ∧ H t = some (.tup [.int (keyP H v).1, .int (keyP H v).2]) ∧ (keyP H v).1 = i := by
  unfold fstI at e
  split at e
  · cases e
    obtain ⟨t, vs, e1, e2, v1, r1, e3, e4, v2, r2, e5, e6, e7⟩ := h
    have e4 : v1 = .int i := e4
    have e6 : v2 = .int _ := e6
    subst e1 e4 e6
    have e7 : r2 = [] := e7
    subst e7 e5 e3
    refine ⟨t, rfl, ?_⟩
    have ek : ∀ j : Int, H t = some (.tup [.int i, .int j]) → keyP H (.ref t) = (i, j) := fun j h => by
      unfold keyP
      dsimp only
      rw [h]
    rw [ek _ e2]
    exact ⟨e2, rfl⟩
  · cases e
theorem all_over {i : Int} : ∀ {ds : List D} {vs : List V}, Reps W H S ob ds vs → ds.all (overI i) = true → ∀ v ∈ vs, i < (keyP H v).1
  | [], vs, h, _ => by rw [show vs = [] from h]; exact fun v hv => by cases hv
  | d :: ds, _, ⟨v, r, e, h1, h2⟩, hs => by
    subst e
    rw [List.all_cons, Bool.and_eq_true] at hs
    intro x hx
    rcases List.mem_cons.mp hx with q | hx
    · subst q
      have h := hs.1
      unfold overI at h
      cases z : fstI d with
      | none => rw [z] at h; cases h
      | some j =>
        rw [z] at h
        obtain ⟨_, _, _, e⟩ := fst_rep z h1
        rw [e]
        exact of_decide_eq_true h
    · exact all_over h2 hs.2 x hx
theorem rises_vs : ∀ {ds : List D} {vs : List V}, Reps W H S ob ds vs → rises ds = true → (∀ v ∈ vs, ∃ t, v = .ref t ∧ H t = some (.tup [.int (keyP H v).1, .int (keyP H v).2])) ∧ SrtO.Srtd (ltP (keyP H)) vs
  | [], vs, h, _ => by
    rw [show vs = [] from h]
    exact ⟨fun v hv => (nomatch hv), List.Pairwise.nil⟩
  | d :: ds, _, ⟨v, r, e, h1, h2⟩, hs => by
    subst e
    unfold rises at hs
    rw [Bool.and_eq_true] at hs
    obtain ⟨a1, a2⟩ := rises_vs h2 hs.2
    have h := hs.1
    cases z : fstI d with
    | none => rw [z] at h; cases h
    | some i =>
      rw [z] at h
      obtain ⟨t, b1, b2, b3⟩ := fst_rep z h1
      have c := all_over h2 h
      refine ⟨fun x hx => ?_, List.pairwise_cons.mpr ⟨fun y hy => ?_, a2⟩⟩
      · rcases List.mem_cons.mp hx with q | hx
        · subst q; exact ⟨t, b1, b2⟩
        · exact a1 x hx
      · have := c y hy
        show SrtO.lexB (keyP H y) (keyP H v) = false
        cases q : SrtO.lexB (keyP H y) (keyP H v) with
        | false => rfl
        | true => rw [SrtO.lexB_iff] at q; omega
end
theorem lf_sortedP {W : Wd} : LfCF W gSortP (rSortedPO W.K) := by
  intro Wx L B σ H Q x v q l
  unfold gSortP at l
  split at l
  · split at l
    · rename_i hr
      obtain ⟨a, vs, e1, h, r⟩ := q
      obtain ⟨a1, a2⟩ := rises_vs r hr
      refine ⟨a, vs, keyP H, by rw [e1], .of h, a1, fun ys z hs hb hz => ?_⟩
      rw [SrtO.stb_uniq (ltP_swo _) hs a2 hb]
      exact l.ret (same_upd hz) hz ⟨vs, upd_same, Reps.mono (kp_new hz) _ _ r⟩
    · exact l.elim
  · exact l.elim
section
variable {X : Cx} {Wx : WX} {pos p : Pos} {a b c d e : Expr} {ma mb mc md m : M} {Ba Bb Bc Bd B : List Nat} {i : Nat} {x : Str} {sts : List Stmt}
theorem f_sortedP (hg : Gl X "sorted") (hm : X.mg "sorted" = none) (ha : DU X Wx Ba a ma) (he : starEach [a] X.env = (false, eval a X.env) :: starEach [] X.env := by rfl) : DF X Wx Ba (.Call (.Name "sorted" p) [a] [] pos) (m1 ma gSortP) := f_callB1 cr_sortedPO lf_sortedP hg hm (by decide +kernel) ha (he := he)
/-! a chain of three -/
def tChain3 (r r' r'' : R2) (ta tb tc td : TE) : TE := fun σ H Q => ta σ H fun x H1 => tb σ H1 fun y H2 => r x y H2 fun z H3 => ∃ k, z = .bl k ∧
  (if k = true then tc σ H3 fun w H4 => r' y w H4 fun z' H5 => ∃ k', z' = .bl k' ∧ (if k' = true then td σ H5 fun u H6 => r'' w u H6 Q else Q (.bl false) H5) else Q (.bl false) H3)
theorem pt_chain3 {ta tb tc td : TE} {op op' op'' : CmpOp} {r r' r'' : R2} (ho : OpR X (compareOp op) r) (ho' : OpR X (compareOp op') r') (ho'' : OpR X (compareOp op'') r'') (ha : PE X a ta) (hb : PE X b tb) (hc : PE X c tc) (hd : PE X d td)
    (hm : lastMarks [op, op', op''] [b, c, d] = false := by with_unfolding_all rfl) : PT X (.Compare a [op, op', op''] [b, c, d] pos) (tTest (tChain3 r r' r'' ta tb tc td)) := by
  refine ⟨fun pins s σ H Q I h => ?_⟩
  refine isTrue_chain (thn (ha.run pins s σ H _ I h) fun v s1 ⟨x, H1, I1, r1, q1⟩ => test_link (thn (hb.run pins s1 σ H1 _ I1 q1) fun u s2 ⟨y, H2, I2, r2, q2⟩ =>
    thn (ho pins s2 σ H2 x y v u _ I2 r1 r2 q2) fun d s3 ⟨z, H3, I3, r3, k, e, q3⟩ => ?_)) hm
  subst e
  cases r3
  refine wpAny_truthy_bool ?_
  cases k with
  | false =>
    obtain ⟨k', e', q'⟩ := q3
    cases e'
    exact ite_ff ⟨H3, I3, q'⟩
  | true =>
    refine ite_tt (test_link (thn (hc.run pins s3 σ H3 _ I3 q3) fun w' s4 ⟨z', H4, I4, r4, q4⟩ => thn (ho' pins s4 σ H4 y z' u w' _ I4 r2 r4 q4) fun d' s5 ⟨z2, H5, I5, r5, k2, e2, q5⟩ => ?_))
    subst e2
    cases r5
    refine wpAny_truthy_bool ?_
    cases k2 with
    | false =>
      obtain ⟨k', e', q'⟩ := q5
      cases e'
      exact ite_ff ⟨H5, I5, q'⟩
    | true =>
      refine ite_tt (test_last (thn (hd.run pins s5 σ H5 _ I5 q5) fun w6 s6 ⟨z6, H6, I6, r6, q6⟩ => thn (ho'' pins s6 σ H6 z' z6 w' w6 _ I6 r4 r6 q6) fun d7 s7 ⟨z7, H7, I7, r7, k7, e7, q7⟩ => ?_))
      subst e7
      cases r7
      exact wpAny_truthy_bool ⟨H7, I7, q7⟩
@[simp] def mCh3 (ma mb mc md : M) (g g' g'' : D → D → Res D) : M := fun ρ ω => (ma ρ ω).bind fun x => (mb ρ ω).bind fun y => (g x y).bind fun z => match z with
  | .bl true => (mc ρ ω).bind fun w => (g' y w).bind fun z' => (match z' with
    | .bl true => (md ρ ω).bind fun u => g'' w u
    | .bl false => .ok (.bl false)
    | _ => .stuck)
  | .bl false => .ok (.bl false)
  | _ => .stuck
theorem chain3_read {σ : L2.St} {H : Hp} {Q : VK} {W : Wd} {g g' g'' : D → D → Res D} {r r' r'' : R2} (hl : LfOp W g r) (hl' : LfOp W g' r') (hl'' : LfOp W g'' r'') {F : Fm} {ρ : Env'} {ω : Store} {L : Lc} (R : Rel W F ρ ω L σ H) (h : Leaf W Wx L (Ba ++ (Bb ++ (Bc ++ Bd))) σ H Q (mCh3 ma mb mc md g g' g'' ρ ω)) :
    tChain3 r r' r'' (tU W Wx Ba ma) (tU W Wx Bb mb) (tU W Wx Bc mc) (tU W Wx Bd md) σ H Q := by
  unfold tChain3
  unfold mCh3 at h
  refine part1 (B := Ba ++ (Bb ++ (Bc ++ Bd))) subl R h fun v H1 x s1 R1 p l1 => ?_
  refine part1 (B := Ba ++ (Bb ++ (Bc ++ Bd))) (fun i hi => subr i (subl i hi)) R1 l1 fun w H2 y s2 R2 q l2 => ?_
  refine hl Wx L (Ba ++ (Bb ++ (Bc ++ Bd))) σ H2 _ x y v w R2.al (p.same s2) q ?_
  cases z : g x y with
  | stuck => rw [z] at l2; exact l2
  | err e => rw [z] at l2; exact l2
  | ok d =>
    rw [z] at l2
    intro u H3 s3 r3
    cases d with
    | bl k =>
      refine ⟨k, r3, ?_⟩
      cases k with
      | true =>
        rw [if_pos rfl]
        refine part1 (B := Ba ++ (Bb ++ (Bc ++ Bd))) (fun i hi => subr i (subr i (subl i hi))) (R2.same s3) (l2.to s3 subid fun _ _ q => q) fun w' H4 y' s4 R4 q4 l4 => ?_
        refine hl' Wx L (Ba ++ (Bb ++ (Bc ++ Bd))) σ H4 _ y y' w w' R4.al ((q.same s3).same s4) q4 ?_
        cases z' : g' y y' with
        | stuck => rw [z'] at l4; exact l4
        | err e => rw [z'] at l4; exact l4
        | ok d' =>
          rw [z'] at l4
          intro u' H5 s5 r5
          cases d' with
          | bl k' =>
            refine ⟨k', r5, ?_⟩
            cases k' with
            | true =>
              rw [if_pos rfl]
              refine part1 (B := Ba ++ (Bb ++ (Bc ++ Bd))) (fun i hi => subr i (subr i (subr i hi))) (R4.same s5) (l4.to s5 subid fun _ _ q => q) fun w6 H6 y6 s6 R6 q6 l6 => ?_
              exact hl'' Wx L _ σ H6 Q y' y6 w' w6 R6.al ((q4.same s5).same s6) q6 l6
            | false =>
              rw [if_neg (by decide)]
              exact l4 _ H5 s5 rfl
          | _ => exact l4.elim
      | false =>
        rw [if_neg (by decide)]
        exact l2 _ H3 s3 rfl
    | _ => exact l2.elim
theorem t_chain3 {op op' op'' : CmpOp} {g g' g'' : D → D → Res D} {r r' r'' : R2} (ho : OpR X (compareOp op) r) (hl : LfOp (wd X) g r) (ho' : OpR X (compareOp op') r') (hl' : LfOp (wd X) g' r') (ho'' : OpR X (compareOp op'') r'') (hl'' : LfOp (wd X) g'' r'') (ha : DU X Wx Ba a ma) (hb : DU X Wx Bb b mb) (hc : DU X Wx Bc c mc) (hd : DU X Wx Bd d md) (hm : lastMarks [op, op', op''] [b, c, d] = false := by rfl) :
    DB X Wx (.Compare a [op, op', op''] [b, c, d] pos) (bV (mCh3 ma mb mc md g g' g'')) :=
  ⟨PT.weak (pt_chain3 ho ho' ho'' ha.pe hb.pe hc.pe hd.pe (hm := hm)) fun σ H Q ⟨F, ρ, ω, L, R, h⟩ => chain3_read (Q := fun x H' => ∃ k, x = .bl k ∧ Q k H') hl hl' hl'' R (leaf_b h)⟩
/-! three new lists in a new list -/
def LeafY (W : Wd) (Wx : WX) (σ : L2.St) (H : Hp) (Q : VK) : Res D → Prop
  | .ok (.tup ds) => ∀ t vs H', Same H H' → H' t = some (.lst vs) → NwL H H' ds vs → (∀ v ∈ vs, v ≠ .ref t) → Q (.ref t) H'
  | _ => False
structure DY (X : Cx) (Wx : WX) (e : Expr) (m : M) : Prop where
  pe : PE X e (fun σ H Q => ∃ F ρ ω L, Rel (wd X) F ρ ω L σ H ∧ LeafY (wd X) Wx σ H Q (m ρ ω))
@[simp] def mThr (ma mb mc : M) : M := fun ρ ω => match ma ρ ω, mb ρ ω, mc ρ ω with
  | .ok (.lst xs), .ok (.lst ys), .ok (.lst zs) => .ok (.tup [.lst xs, .lst ys, .lst zs])
  | _, _, _ => .stuck
theorem none_back {H H1 : Hp} (s : Same H H1) (a : Addr) (hn : H1 a = none) : H a = none := by
  cases e : H a with
  | none => rfl
  | some u => rw [s a u e] at hn; cases hn
theorem y_thr (ha : DZ X Wx a ma) (hb : DZ X Wx b mb) (hc : DZ X Wx c mc) (hs : starEach [a, b, c] X.env = (false, eval a X.env) :: starEach [b, c] X.env := by rfl) (hs2 : starEach [b, c] X.env = (false, eval b X.env) :: starEach [c] X.env := by rfl)
    (hs3 : starEach [c] X.env = (false, eval c X.env) :: starEach [] X.env := by rfl) : DY X Wx (.List [a, b, c] pos) (mThr ma mb mc) :=
  ⟨PE.weak (pe_lst (pa_cons ha.pe (pa_cons hb.pe (pa_cons hc.pe pa_nil hs3) hs2) hs)) fun σ H Q ⟨F, ρ, ω, L, R, h⟩ => by
    unfold mThr at h
    refine ⟨F, ρ, ω, L, R, ?_⟩
    cases za : ma ρ ω with
    | stuck => rw [za] at h; exact h.elim
    | err e => rw [za] at h; exact h.elim
    | ok d1 =>
      rw [za] at h
      intro v H1 s1 q1
      refine ⟨F, ρ, ω, L, R.same s1, ?_⟩
      cases zb : mb ρ ω with
      | stuck => rw [zb] at h; cases d1 <;> exact h.elim
      | err e => rw [zb] at h; cases d1 <;> exact h.elim
      | ok d2 =>
        rw [zb] at h
        intro w H2 s2 q2
        refine ⟨F, ρ, ω, L, (R.same s1).same s2, ?_⟩
        cases d1 with
        | lst xs =>
          cases d2 with
          | lst ys =>
            cases zc : mc ρ ω with
            | stuck => rw [zc] at h; exact h.elim
            | err e => rw [zc] at h; exact h.elim
            | ok d3 =>
              rw [zc] at h
              intro u H3 s3 q3
              cases d3 with
              | lst zs =>
                refine ⟨by show 3 ≤ sizeLine; decide, fun z hz => ?_⟩
                have sm := same_upd (o := .lst [v, w, u]) hz
                have n1 : Nw H H3 xs.length v := Nw.keep s3 (Nw.keep s2 q1)
                have n2 : Nw H H3 ys.length w := Nw.keep s3 (Nw.back (none_back s1) q2)
                have n3 : Nw H H3 zs.length u := Nw.back (none_back (s1.trans s2)) q3
                have ne : ∀ {n : Nat} {y : V}, Nw H H3 n y → y ≠ .ref z := fun ⟨a, ys, e1, e2, e3, e4⟩ q => by
                  rw [q] at e1
                  cases e1
                  rw [hz] at e3
                  cases e3
                refine h z [v, w, u] _ (((s1.trans s2).trans s3).trans sm) upd_same ⟨v, [w, u], rfl, Nw.keep sm n1, w, [u], rfl, Nw.keep sm n2, u, [], rfl, Nw.keep sm n3, rfl⟩ fun y hy => ?_
                simp only [List.mem_cons, List.not_mem_nil, or_false] at hy
                rcases hy with q | q | q <;> subst q
                · exact ne n1
                · exact ne n2
                · exact ne n3
              | _ => exact h.elim
          | _ => exact h.elim
        | _ => cases d2 <;> exact h.elim⟩
theorem s_toldL (hp : PassesOwn (model X.prog X.w) X.A X.env X.xe) (hc : X.calm = true) (hN : X.N.Nodup) (hi : X.N[i]? = some x) (hx : Loc X.env.scope x) (he : DY X Wx e m) (hb : JB X i sts)
    (hs : ∀ x, foldedSetIterable e X.env x = pure x := by intro _; rfl) (hf : X.fn x = true ∨ X.env.scope.names.lookup x = some .local := by first | exact .inl rfl | exact .inr rfl | assumption) : DS X Wx (.For (.Name x p) e sts [] pos) (sTold i m) :=
  ⟨PS.weak (ps_for hp hc (pi_list he.pe) (pg_name hN hi hx hf) hb.pss hs) fun G σ H ⟨F, ρ, ω, L, R, h⟩ => by
    refine ⟨F, ρ, ω, L, R, ?_⟩
    unfold sTold at h
    cases z : m ρ ω with
    | stuck => rw [z] at h; exact h
    | err e => rw [z] at h; exact h.elim
    | ok d =>
      rw [z] at h
      cases d with
      | tup ds =>
        replace h : LeafS (wd X) Wx F G (if i < ρ.length ∧ 0 < ds.length ∧ ds.length ≤ 1000 ∧ ds.all small = true then .nx (ρ.set i .no) ω else .stuck) := h
        split at h
        case isFalse => exact h.elim
        rename_i hh
        obtain ⟨h1, h2, h3, h4⟩ := hh
        intro t vs H1 s e2 e3 e4
        obtain ⟨l1, l2⟩ := e3.all h4
        refine ⟨t, rfl, ⟨vs, SqL.of e2⟩, ?_⟩
        have uq : ∀ {H' : Hp}, H' t = some (.lst vs) → SqL X.K H' t vs := fun h => SqL.of h
        exact told_walk (J := Itl X.K t) (t := t) (u := .lst vs) (vs := vs) (fun G σ H h => h) (fun H' j ht hj => ⟨vs, vs[j], uq ht, List.getElem?_eq_getElem hj⟩) (fun H' j x H'' ht y hj => ⟨y.1, y.2 vs (uq ht)⟩) (fun H' ht => ⟨vs, uq ht, Nat.le_refl _⟩) (by rw [R.len]; exact h1) (by omega) (by omega) s e2
          (fun v hv => ⟨l2 v hv, e4 v hv⟩) (fun H2 v s2 => h _ _ _ ((R.same s2).junk h1 v))
      | _ => exact h.elim⟩
end
end DL
noncomputable section
namespace DL
open PySem PySem.Spec PySem.Calls PyProof.Rows L2
section
variable {X : Cx} {Wx : WX} {pos : Pos} {a b c : Expr} {xa xb : MX} {f : Str} {tc : Env' → Store → Res Bool}
/-! a field of what an expression with effects tells -/
@[simp] def xFld (c f : Str) (xa : MX) : MX := fun n0 ρ ω => (xa n0 ρ ω).bind fun d ρ1 ω1 => ofR (fldVal c f ω1 d) ρ1 ω1
theorem x_fld (cl : Str) (T : FldOk X cl f) (ha : DX X Wx a xa) (hb : attributeBase a f X.env (eval a X.env) = eval a X.env := by rfl) : DX X Wx (.Attribute a f pos) (xFld cl f xa) :=
  ⟨PE.weak (pe_fld ha.pe hb) fun σ H Q ⟨F, ρ, ω, L, R, h⟩ => part1x (k := fun d ρ1 ω1 => ofR (fldVal cl f ω1 d) ρ1 ω1) R h fun v H1 L1 ρ1 ω1 x R1 r l => by
    have h := leafX_ofR R1 l
    have s := Same.refl H1
    unfold fldVal at h
    split at h
    · rename_i n
      split at h
      · rename_i o eo
        split at h
        · rename_i ec
          obtain ⟨p, C, dx, fs, e1, e2, e3, q⟩ := (R1.st n o eo).at_
          obtain ⟨a1, e4, e5⟩ := r
          have e6 : p = a1 := Option.some.inj (e1.symm.trans e4)
          subst e6
          rw [ec] at e2
          obtain ⟨T1, T2⟩ := T.ok C e2
          split at h
          · rename_i d el
            obtain ⟨v1, l1, r1⟩ := q.get el
            obtain ⟨v2, e7, r2⟩ := r1
            cases e7
            exact ⟨p, C, dx, fs, v1, e5, e3, T1, T2, l1, h v1 H1 s (r2.wide nilsub)⟩
          · exact h.elim
        · exact h.elim
      · exact h.elim
    · rename_i k fs
      split at h
      · rename_i ec
        obtain ⟨a1, C, dx, fv, e5, s1, e2, e3, q⟩ := r
        rw [ec] at e2
        obtain ⟨T1, T2⟩ := T.ok C e2
        split at h
        · rename_i d el
          obtain ⟨v1, l1, r1⟩ := q.get el
          exact ⟨a1, C, dx, fv, v1, e5, e3, T1, T2, l1, h v1 H1 s r1⟩
        · exact h.elim
      · exact h.elim
    · exact h.elim⟩
end
end DL
noncomputable section
namespace DL
open PySem PySem.Spec PySem.Calls PyProof.Rows L2
/-! ### a leaner fragment of the heap: each object's names are looked at once -/
def memA (a : Addr) (l : List Addr) : Bool := List.rec (motive := fun _ => Bool) false (fun b _ ih => cond (Nat.beq a b) true ih) l
/-- l's addresses that are not seen yet, ahead of what is seen -/
def addA (l : List Addr) (seen : List Addr) : List Addr := List.rec (motive := fun _ => List Addr → List Addr) (fun s => s) (fun a _ ih s => cond (memA a s) (ih s) (ih (a :: s))) l seen
def refsG (g : Addr → Option Obj) (a : Addr) : List Addr := match g a with
  | some o => He.refsD o
  | none => []
/-- n rounds: what is seen, and how many of it were looked at -/
def asY (g : Addr → Option Obj) : Nat → List Addr × Nat
  | 0 => ([mainGlobals], 0)
  | n + 1 => match asY g n with
    | (seen, k) => (addA ((seen.take (seen.length - k)).flatMap (refsG g)) seen, seen.length)
def fragY (n : Nat) (g : Addr → Option Obj) : PySem.W.Frag := He.frG g ((asY g n).1 ++ [cStatics])
def obsY (n : Nat) (fa : List He.Fa) (fn : List He.DefD) (ts : List He.Tab) (ex : PySem.W.Frag → Bool) (g : Addr → Option Obj) : AlZ := (He.obsT fa fn ts (fragY n g), ex (fragY n g))
def hookY (n : Nat) (fa : List He.Fa) (fn : List He.DefD) (ts : List He.Tab) (ex : PySem.W.Frag → Bool) : PySem.W.Hook where
  α := AlZ
  obs := fun s => obsY n fa fn ts ex s.heap.get?
  val := fun w => (He.valT fn ts w, true)
  says := fun w h => ∃ K : PySem.W.Frag, K.In h ∧ SaysZ fa fn ts ex w K
  of := fun _ _ e => ⟨_, He.frG_in, ⟨congrArg (fun z : AlZ => z.1) e, congrArg (fun z : AlZ => z.2) e⟩⟩
  keeps := fun _ _ _ ⟨K, hK, c⟩ k => ⟨K, PySem.W.Frag.In.keeps hK k, ⟨c.t, c.more⟩⟩
theorem obsY_eq {n : Nat} {fa : List He.Fa} {fn : List He.DefD} {ts : List He.Tab} {ex : PySem.W.Frag → Bool} {g : Addr → Option Obj} {s : Shared} (h : ∀ a, g a = s.heap.get? a) : obsY n fa fn ts ex g = (hookY n fa fn ts ex).obs s := by
  rw [show g = s.heap.get? from funext h] <;> rfl
end DL
noncomputable section
namespace DL
open PySem PySem.Spec PySem.Calls PyProof.Rows L2
/-! ### a def that tells what is new and nobody's -/
def LeafSN (W : Wd) (Wx : WX) (F : Fm) : Ends → RS → Prop := fun G r => match r with
  | .rt d ω => ∀ a ρ σ H L, Rel W F ρ ω L σ H → F.H0 a = none → RepO W H (fun b => FrA L b ∧ b ≠ a) (obs L) true d a → G.rt (.ref a) H
  | .er e ω => ∀ cls dd ρ σ H L, Rel W F ρ ω L σ H → Exc W H e cls dd → Wx cls dd σ H
  | _ => False
def tSN (W : Wd) (Wx : WX) (m : T) : TS := fun G σ H => ∃ F ρ ω L, Rel W F ρ ω L σ H ∧ LeafSN W Wx F G (m F.n0 ρ ω)
structure DSsN (X : Cx) (Wx : WX) (st : List Stmt) (m : T) : Prop where
  pss : PSs X st (tSN (wd X) Wx m)
def LeafCN (W : Wd) (F : Fm) (Q : VK) (E : XK) : RR → Prop
  | .stuck => False
  | .ok d ω => (match d with
    | .lst _ => True
    | _ => False) ∧ ∀ a H' L', Rel W F [] ω L' [] H' → NoSl L' → F.H0 a = none → RepO W H' (fun b => Fr L' [] b ∧ b ≠ a) (obs L') true d a → Q (.ref a) H'
  | .er e ω => ∀ cls dd H' L', Rel W F [] ω L' [] H' → NoSl L' → Exc W H' e cls dd → E cls dd H'
def spN (W : Wd) (n : Nat) (f : Fu) : Sp := fun vs H Q E => vs.length = n ∧ ∃ n0 L ω ds, Rel W ⟨n0, L, H⟩ [] ω L [] H ∧ NoSl L ∧ Reps W H (Fr L []) (obs L) ds vs ∧ LeafCN W ⟨n0, L, H⟩ Q E (f n0 ds ω)
section
variable {X : Cx} {Wx : WX} {pos p : Pos} {e : Expr} {m : M} {B : List Nat} {st : Stmt} {sts : List Stmt} {t u : T}
theorem ns_ret (he : DF X Wx B e m) : DSsN X Wx [.Return (some e) pos] (sRet m) :=
  ⟨PSs.weak' (pss_one (ps_ret he.pe)) fun G σ H ⟨F, ρ, ω, L, R, h⟩ => ⟨F, ρ, ω, L, R, by
    unfold sRet at h
    cases z : m ρ ω with
    | stuck => rw [z] at h; exact h
    | err e => rw [z] at h; exact fun cls dd H' s x => h cls dd ρ σ H' L (R.same s) x
    | ok d =>
      rw [z] at h
      exact fun a H' s hn r => h a ρ σ H' L (R.same s) (R.aft.fresh hn) (RepO.mono ⟨fun b u f _ => ⟨fr_frA f.1, f.2⟩, fun _ _ _ h => h, fun _ _ h => h, fun _ _ h => h⟩ (fun _ h => h) (fun _ h => h) r)⟩⟩
theorem ns_cons (ha : DS X Wx st t) (hb : DSsN X Wx sts u) : DSsN X Wx (st :: sts) (sqZ t u) :=
  ⟨PSs.weak' (pss_cons ha.ps hb.pss) fun G σ H ⟨F, ρ, ω, L, R, h⟩ => ⟨F, ρ, ω, L, R, by
    unfold sqZ at h
    cases z : t F.n0 ρ ω with
    | stuck => rw [z] at h; exact h
    | nx ρ' ω' => rw [z] at h; exact fun σ' H' L' R' => ⟨F, ρ', ω', L', R', h⟩
    | er e ω' => rw [z] at h; exact h
    | rt d ω' => rw [z] at h; exact h.elim
    | bk ρ' ω' => rw [z] at h; exact h.elim
    | ct ρ' ω' => rw [z] at h; exact h.elim⟩⟩
end
section
variable {P : Program} {w : World} {K : PySem.W.Frag} {mg : Str → Option Value} {base : Heap} {x c m qual : Str} {params : Arguments} {body : List Stmt} {scope : Scope} {f C : Addr} {fd : FuncData} {N ps : List Str} {k n : Nat} {g : T}
theorem fnn_ok (F : FunD K x qual params body scope [] [] f fd) (S : FnScope N ps scope)
    (hbody : ∀ (cdv : Value) (A : Around) (outer : List Env) (s : Shared) (H : Hp) (E : XK), Room k (A.deeper (envOfC qual scope s.heap.objs.size f cdv)) →
      DSsN (cxOf (L2.CX P w) P w K mg base N qual scope f cdv A outer s H E) (fun cls d _ H => E cls d H) body g) : FnOk P w K mg base (L2.CX P w) (k + 1) f fd ps (spN ⟨K, mg⟩ ps.length (fuOf N.length g)) := by
  refine F.ok S (fun vs H Q E h => h.1) (fun cdv A outer s H vs Q E hr h => ⟨_, (hbody cdv A outer s H E hr).pss, ?_⟩)
  obtain ⟨hl, n0, L, ω, ds, R, ns, q, h⟩ := h
  refine ⟨⟨n0, L, H⟩, envS N.length ds, ω, L, R.begin q, ?_⟩
  replace h : LeafCN ⟨K, mg⟩ ⟨n0, L, H⟩ Q E (toRR (g n0 (envS N.length ds) ω)) := h
  show LeafSN ⟨K, mg⟩ _ _ _ (g n0 (envS N.length ds) ω)
  cases z : g n0 (envS N.length ds) ω with
  | stuck => rw [z] at h; exact h
  | bk ρ ω => rw [z] at h; exact h.elim
  | ct ρ ω => rw [z] at h; exact h.elim
  | nx ρ' ω' =>
    rw [z] at h
    exact h.1.elim
  | rt d ω' =>
    rw [z] at h
    exact fun a ρ' σ' H' L' R' hn r => h.2 a H' _ R'.strip lcN_no hn (RepO.mono ⟨fun b u f hu => ⟨kp_stripA.s b u f.1 hu, f.2⟩, fun _ _ _ h => h, fun _ _ h => h, fun _ _ h => h⟩ (fun _ h => h) (fun _ h => h) r)
  | er e ω' => rw [z] at h; exact fun cls dd ρ' σ' H' L' R' r => h _ _ H' _ R'.strip lcN_no r
end
structure FcN (P : Program) (w : World) (K : PySem.W.Frag) (mg : Str → Option Value) (base : Heap) (k : Nat) (x : Str) (n : Nat) (g : Fu) : Prop where
  ex : ∃ f fd ps, mg x = some (.ref f) ∧ PySem.W.keepIn K (.ref f) = true ∧ Binds K fd ps [] ∧ ps.length = n ∧ FnOk P w K mg base (L2.CX P w) k f fd ps (spN ⟨K, mg⟩ n g)
section
variable {P : Program} {w : World} {K : PySem.W.Frag} {mg : Str → Option Value} {base : Heap} {x c m qual : Str} {params : Arguments} {body : List Stmt} {scope : Scope} {f C : Addr} {fd : FuncData} {N ps : List Str} {k n : Nat} {g : T}
theorem fcn_ok (F : FunD K x qual params body scope [] [] f fd) (S : FnScope N ps scope) (hm : mg x = some (.ref f)) (hb : Binds K fd ps []) (hn : ps.length = n)
    (hbody : ∀ (cdv : Value) (A : Around) (outer : List Env) (s : Shared) (H : Hp) (E : XK), Room k (A.deeper (envOfC qual scope s.heap.objs.size f cdv)) → DSsN (cxOf (L2.CX P w) P w K mg base N qual scope f cdv A outer s H E) (fun cls d _ H => E cls d H) body g) :
    FcN P w K mg base (k + 1) x n (fuOf N.length g) := by
  subst hn
  exact ⟨f, fd, ps, hm, F.kp, hb, rfl, fnn_ok F S hbody⟩
end
def onlyL : D → Res D
  | .lst xs => .ok (.lst xs)
  | _ => .stuck
@[simp] theorem onlyL_lst {xs : List D} : onlyL (.lst xs) = .ok (.lst xs) := rfl
@[simp] def mCallN (n : Nat) (f : Fu) (ma : MA) : M := fun ρ ω => (mCall n f ma ρ ω).bind onlyL
theorem meth_readN {W : Wd} {Wx : WX} {F : Fm} {ρ : Env'} {ω : Store} {L : Lc} {σ : L2.St} {H : Hp} {Q : VK} {B : List Nat} {ds : List D} {vs : List V} {n : Nat} {g : Fu} (R : Rel W F ρ ω L σ H) (q : Reps W H (Fr L B) (obs L) ds vs) (h : LeafF W Wx L B σ H Q ((if ds.length = n then ofRR ω (g ω.length ds ω) else .stuck).bind onlyL)) : spN W n g vs H Q (fun c d H => Wx c d σ H) := by
  split at h
  case isFalse => exact h.elim
  rename_i hds
  refine ⟨by rw [q.len, hds], ω.length, lcC L B, ω, ds, R.into B ω.length (fun n h1 h2 => absurd h1 (Nat.not_lt.mpr h2)), lcC_no, Reps.mono kp_call ds vs q, ?_⟩
  cases zg : g ω.length ds ω with
  | stuck => rw [zg] at h; exact h
  | er e ω' =>
    rw [zg] at h
    exact fun cls dd H2 L' R' ns x => h cls dd H2 (call_keep R R' (Nat.le_refl _)) x
  | ok d ω' =>
    rw [zg] at h
    replace h : LeafF W Wx L B σ H Q ((if ω'.length = ω.length then Res.ok d else .stuck).bind onlyL) := h
    split at h
    · rename_i hl
      cases d with
      | lst xs => exact ⟨trivial, fun a H2 L' R' ns hn r => h a H2 (call_keep R R' (Nat.le_refl _)) hn (RepO.mono ⟨fun b u f hu => ⟨(call_back R R' (Nat.le_refl _) hl).s b u f.1 hu, f.2⟩, fun _ _ _ h => h, fun _ _ h => h, (call_back R R' (Nat.le_refl _) hl).o⟩ (fun _ h => h) (fun _ h => h) r)⟩
      | _ => exact h.elim
    · exact h.elim
section
variable {X : Cx} {Wx : WX} {pos p : Pos} {e : Expr} {es : List Expr} {B : List Nat} {mr : MA} {x : Str} {j k n : Nat} {g : Fu}
theorem f_callN (c : FcN X.prog X.w X.K X.mg X.base j x n g) (hr : Room k X.A) (tk : Takes X Wx) (ha : DA X Wx B (e :: es) mr) (hg : Gl X x := by rfl) (hj : j ≤ k := by decide) (hdb : (x == ("__debug__" : Str)) = false := by decide)
    (he : starEach (e :: es) X.env = (false, eval e X.env) :: starEach es X.env := by rfl) (hpl : (backTo pos (starEach es X.env)).any (·.1) = false := by rfl) : DF X Wx B (.Call (.Name x p) (e :: es) [] pos) (mCallN n g mr) := by
  obtain ⟨f, fd, ps, h1, h2, h3, rfl, h5⟩ := c.ex
  refine ⟨PE.weak (pe_callSD (h5.mono hj) hr hg h1 h2 h3 .nil (passAt tk) ha.pa hdb he hpl) fun σ H Q ⟨F0, ρ, ω, L, R, h⟩ => ?_⟩
  refine ⟨F0, ρ, ω, L, R, ?_⟩
  unfold mCallN mCall at h
  cases z : mr ρ ω with
  | stuck => rw [z] at h; exact h
  | err e => rw [z] at h; exact h
  | ok ds =>
    rw [z] at h
    intro vs H1 s q
    rw [List.append_nil]
    exact meth_readN (R.same s) q (LeafF.to h s)
end
/-! ### an except suite of more than one statement -/
def RepN (W : Wd) (H0 H : Hp) (d : D) (v : V) : Prop := ∀ S ob, (∀ b, H0 b = none → S b) → Rep W H S ob d v
def RepNs (W : Wd) (H0 H : Hp) (d : List D) (v : List V) : Prop := ∀ S ob, (∀ b, H0 b = none → S b) → Reps W H S ob d v
abbrev Gam := List (Nat × (Er → Option D))
def Knows (W : Wd) (Γ : Gam) (er : Er) (σ : L2.St) (H0 H : Hp) : Prop := ∀ q ∈ Γ, ∃ v dj, q.2 er = some dj ∧ σ[q.1]? = some (some v) ∧ RepN W H0 H dj v
theorem Knows.same {W : Wd} {Γ : Gam} {er : Er} {σ : L2.St} {H0 H H' : Hp} (k : Knows W Γ er σ H0 H) (s : Same H H') : Knows W Γ er σ H0 H' := fun q hq => by
  obtain ⟨v, dj, e1, e2, e3⟩ := k q hq
  exact ⟨v, dj, e1, e2, fun S ob h => Rep.same (e3 S ob h) s⟩
structure DE2 (X : Cx) (i : Nat) (Γ : Gam) (e : Expr) (g : Er → Option D) : Prop where
  ex : ∃ te : Addr → Value → Option Addr → TE, (∀ a oe cls d pn, Zc cls d oe → (∃ vs, oe.data = .fields vs) → PE (X.suite a ((a, oe) :: pn)) e (te a cls d)) ∧
    ∀ a cls d er σ H0 H Q dd, g er = some dd → σ[i]? = some (some (.ref a)) → Exc (wd X) H er cls d → Same H0 H → Knows (wd X) Γ er σ H0 H → (∀ v H', Same H H' → RepN (wd X) H0 H' dd v → Q v H') → te a cls d σ H Q
structure DE2s (X : Cx) (i : Nat) (Γ : Gam) (es : List Expr) (g : Er → Option (List D)) : Prop where
  ex : ∃ te : Addr → Value → Option Addr → TA, (∀ a oe cls d pn, Zc cls d oe → (∃ vs, oe.data = .fields vs) → PA (X.suite a ((a, oe) :: pn)) es (te a cls d)) ∧
    ∀ a cls d er σ H0 H Q dd, g er = some dd → σ[i]? = some (some (.ref a)) → Exc (wd X) H er cls d → Same H0 H → Knows (wd X) Γ er σ H0 H → (∀ v H', Same H H' → RepNs (wd X) H0 H' dd v → Q v H') → te a cls d σ H Q
structure SU (X : Cx) (i : Nat) (Γ : Gam) (sts : List Stmt) (g : Er → Option D) : Prop where
  ex : ∃ ts : Addr → Value → Option Addr → TS, (∀ a oe cls d pn, Zc cls d oe → (∃ vs, oe.data = .fields vs) → PSs (X.suite a ((a, oe) :: pn)) sts (ts a cls d)) ∧
    ∀ a cls d er σ H0 H G dd, g er = some dd → σ.length = X.N.length → σ[i]? = some (some (.ref a)) → Exc (wd X) H er cls d → Same H0 H → Knows (wd X) Γ er σ H0 H → (∀ v H', Same H0 H' → RepN (wd X) H0 H' dd v → G.rt v H') → ts a cls d G σ H
section
variable {X : Cx} {Wx : WX} {i j : Nat} {x y : Str} {pos p pt np pos' rp : Pos} {e : Expr} {es : List Expr} {sts : List Stmt} {g g1 : Er → Option D} {gs : Er → Option (List D)} {Γ Γ' : Gam}
theorem g_of (h : DE X i e g) : DE2 X i Γ e g := by
  obtain ⟨te, h1, h2⟩ := h.ex
  exact ⟨te, h1, fun a cls d er σ H0 H Q dd eg hs xx s0 kn q => h2 a cls d er σ H Q dd eg hs xx fun v H' s r => q v H' s fun S ob _ => r S ob⟩
theorem g_var (j : Nat) (hm : (j, g) ∈ Γ) (hN : X.N[j]? = some y) (hv : Vis X.env.scope y) (hd : (y == ("__debug__" : Str)) = false := by decide) (hcd : (y == ("__classdict__" : Str)) = false := by decide) : DE2 X i Γ (.Name y p) g :=
  ⟨fun _ _ _ => tVar j, fun a oe cls d pn _ _ => pe_var (X := X.suite a ((a, oe) :: pn)) hN hv hd hcd, fun a cls d er σ H0 H Q dd eg hs xx s0 kn q => by
    obtain ⟨v, dj, e1, e2, e3⟩ := kn _ hm
    have : dj = dd := Option.some.inj (e1.symm.trans eg)
    subst this
    exact ⟨v, e2, q v H (Same.refl H) e3⟩⟩
theorem gg_nil : DE2s X i Γ [] (fun _ => some []) := ⟨fun _ _ _ => tNil, fun a oe cls d pn _ _ => pa_nil, fun a cls d er σ H0 H Q dd eg _ _ _ _ h => by cases eg; exact h [] H (Same.refl H) (fun _ _ _ => rfl)⟩
theorem gg_cons (h : DE2 X i Γ e g) (t : DE2s X i Γ es gs) (he : starEach (e :: es) X.env = (false, eval e X.env) :: starEach es X.env := by rfl) : DE2s X i Γ (e :: es) (fun er => (g er).bind fun d => (gs er).map fun ds => d :: ds) := by
  obtain ⟨te, h1, h2⟩ := h.ex
  obtain ⟨ta, t1, t2⟩ := t.ex
  refine ⟨fun a cls d => tCons (te a cls d) (ta a cls d), fun a oe cls d pn hz hf => pa_cons (h1 a oe cls d pn hz hf) (t1 a oe cls d pn hz hf) he, fun a cls d er σ H0 H Q dd eg hs xx s0 kn q => ?_⟩
  cases e1 : g er with
  | none => rw [e1] at eg; cases eg
  | some d1 =>
    rw [e1] at eg
    cases e2 : gs er with
    | none => rw [e2] at eg; cases eg
    | some d2 =>
      rw [e2] at eg
      cases eg
      refine h2 a cls d er σ H0 H _ d1 e1 hs xx s0 kn fun v H1 s1 r1 => ?_
      exact t2 a cls d er σ H0 H1 _ d2 e2 hs (xx.same s1) (s0.trans s1) (kn.same s1) fun vs H2 s2 r2 => q _ H2 (s1.trans s2) fun S ob hS => ⟨v, vs, rfl, Rep.same (r1 S ob hS) s2, r2 S ob hS⟩
theorem gg_tup {k} (t : DE2s X i Γ es gs) : DE2 X i Γ (.Tuple es k pos) (fun er => (gs er).bind fun ds => if ds.length ≤ 100 then some (.tup ds) else none) := by
  obtain ⟨ta, t1, t2⟩ := t.ex
  refine ⟨fun a cls d => tTup (ta a cls d), fun a oe cls d pn hz hf => pe_tup (t1 a oe cls d pn hz hf), fun a cls d er σ H0 H Q dd eg hs xx s0 kn q => ?_⟩
  cases e2 : gs er with
  | none => rw [e2] at eg; cases eg
  | some ds =>
    rw [e2] at eg
    replace eg : (if ds.length ≤ 100 then some (D.tup ds) else none) = some dd := eg
    split at eg
    · rename_i hl
      cases eg
      refine t2 a cls d er σ H0 H _ ds e2 hs xx s0 kn fun vs H2 s2 r2 => ⟨by rw [(r2 (fun _ => True) (fun _ => none) (fun _ _ => trivial)).len, sizeLine_eq]; omega, fun z hz => ?_⟩
      have sm := same_upd (o := .tup vs) hz
      exact q _ _ (s2.trans sm) fun S ob hS => ⟨z, vs, rfl, upd_same, Reps.same (r2 S ob hS) sm⟩
    · cases eg
theorem gg_lst (t : DE2s X i Γ es gs) : DE2 X i Γ (.List es pos) (fun er => (gs er).bind fun ds => if ds.length ≤ 100 then some (.lst ds) else none) := by
  obtain ⟨ta, t1, t2⟩ := t.ex
  refine ⟨fun a cls d => tLst (ta a cls d), fun a oe cls d pn hz hf => pe_lst (t1 a oe cls d pn hz hf), fun a cls d er σ H0 H Q dd eg hs xx s0 kn q => ?_⟩
  cases e2 : gs er with
  | none => rw [e2] at eg; cases eg
  | some ds =>
    rw [e2] at eg
    replace eg : (if ds.length ≤ 100 then some (D.lst ds) else none) = some dd := eg
    split at eg
    · rename_i hl
      cases eg
      refine t2 a cls d er σ H0 H _ ds e2 hs xx s0 kn fun vs H2 s2 r2 => ⟨by rw [(r2 (fun _ => True) (fun _ => none) (fun _ _ => trivial)).len, sizeLine_eq]; omega, fun z hz => ?_⟩
      have sm := same_upd (o := .lst vs) hz
      exact q _ _ (s2.trans sm) fun S ob hS => ⟨z, vs, rfl, hS z (none_back (s0.trans s2) z hz), upd_same, Reps.same (r2 S ob hS) sm⟩
    · cases eg
theorem su_ret (he : DE2 X i Γ e g) : SU X i Γ [.Return (some e) rp] g := by
  obtain ⟨te, h1, h2⟩ := he.ex
  exact ⟨fun a cls d => tRet (te a cls d), fun a oe cls d pn hz hf => pss_one (ps_ret (h1 a oe cls d pn hz hf)), fun a cls d er σ H0 H G dd eg hl hs xx s0 kn q => h2 a cls d er σ H0 H _ dd eg hs xx s0 kn fun v H' s r => q v H' (s0.trans s) r⟩
theorem su_set (he : DE2 X i Γ e g1) (hr : SU X i ((j, g1) :: Γ') sts g) (hN : X.N.Nodup) (hj : X.N[j]? = some y) (hx : Loc X.env.scope y) (hji : j ≠ i) (hΓ : ∀ q ∈ Γ', q ∈ Γ ∧ q.1 ≠ j) (hs : swapsWith e (some (.Name y p)) pos.line X.env = pure false := by rfl)
    (hf : X.fn y = true ∨ X.env.scope.names.lookup y = some .local := by first | exact .inl rfl | exact .inr rfl | assumption) : SU X i Γ (.Assign [.Name y p] e pos :: sts) (fun er => (g1 er).bind fun _ => g er) := by
  obtain ⟨te, h1, h2⟩ := he.ex
  obtain ⟨ts, t1, t2⟩ := hr.ex
  refine ⟨fun a cls d => tSeq (tAsg (te a cls d) (gName j)) (ts a cls d), fun a oe cls d pn hz hff => pss_cons (ps_set (X := X.suite a ((a, oe) :: pn)) hN hj hx (h1 a oe cls d pn hz hff) hs hf) (t1 a oe cls d pn hz hff), fun a cls d er σ H0 H G dd eg hl hs xx s0 kn q => ?_⟩
  cases e1 : g1 er with
  | none => rw [e1] at eg; cases eg
  | some d1 =>
    rw [e1] at eg
    have hjl : j < σ.length := by
      have := (List.getElem?_eq_some_iff.mp hj).1
      omega
    refine h2 a cls d er σ H0 H _ d1 e1 hs xx s0 kn fun v H1 s1 r1 => ?_
    refine t2 a cls d er _ H0 H1 _ dd eg (by rw [List.length_set]; exact hl) (by rw [List.getElem?_set_ne hji]; exact hs) (xx.same s1) (s0.trans s1) (fun z hz => ?_) q
    rcases List.mem_cons.mp hz with r | hz
    · subst r
      exact ⟨v, d1, e1, by rw [List.getElem?_set_self hjl], r1⟩
    · obtain ⟨m1, m2⟩ := hΓ z hz
      obtain ⟨w, dj, f1, f2, f3⟩ := kn z m1
      exact ⟨w, dj, f1, by rw [List.getElem?_set_ne (Ne.symm m2)]; exact f2, fun S ob h => Rep.same (f3 S ob h) s1⟩
theorem s_trySu {c : Value} {n : Str} {b0 : Stmt} {body suite : List Stmt} {mb : T} (cs : List Str) (hit : Str → Bool) (hN : X.N.Nodup) (hi : X.N[i]? = some n) (hln : X.env.kindOf n = some .local) (hc : Names X x c) (tk : Takes X Wx) (T : ∀ k ∈ cs, ∀ C, X.mg k = some (.ref C) → PySem.W.exmOne X.K (.ref C) c = some (hit k))
    (hb : ∀ (W : WX) (pn : List (Addr × Obj)) (xe : Value → Shared → Prop), Takes (X.tr pn xe) W → PassesOwn (model X.prog X.w) X.A X.env xe → DSs (X.tr pn xe) W body mb) (he : SU X i [] (b0 :: suite) g) (hs : X.stack = X.env :: X.outer := by rfl) (hf : X.env.frame = some X.env.locals := by rfl) :
    DS X Wx (.Try body [.ExceptHandler (some (.Name x np)) (some n) (b0 :: suite) pos'] [] [] pos) (sTry cs hit mb g) := by
  obtain ⟨ts, h1, h2⟩ := he.ex
  refine ⟨PS.weak (ps_try_as (tb := fun W => tS (wd X) W mb) (ts := fun a cls d D σ H => σ.length = X.N.length → ts a cls d D σ H) hs hf hN hi hln hc tk (fun W pn xe tk' hp => (hb W pn xe tk' hp).pss) fun a oe cls d pn hz hff => ⟨fun pins s σ H D I q => (h1 a oe cls d pn hz hff).run pins s σ H D I (q I.len)⟩) fun G σ H ⟨F, ρ, ω, L, R, h⟩ => ⟨F, ρ, ω, L, R, ?_⟩⟩
  unfold sTry at h
  cases zb : mb F.n0 ρ ω with
  | stuck => rw [zb] at h; exact h
  | nx ρ' ω' => rw [zb] at h; exact h
  | rt d ω' => rw [zb] at h; exact h
  | bk ρ' ω' => rw [zb] at h; exact h
  | ct ρ' ω' => rw [zb] at h; exact h
  | er er ω' =>
    rw [zb] at h
    intro cls dd ρ' σ' H' L' R' xx
    replace h : LeafS (wd X) Wx F G (if er.cls ∈ cs then (if hit er.cls = true then (match g er with
      | some d => .rt d ω'
      | none => .stuck) else .er er ω') else .stuck) := h
    split at h
    · rename_i hm
      obtain ⟨C, d, e1, e2, e3, e4⟩ := xx.at_
      refine ⟨hit er.cls, by rw [e2]; exact T _ hm C e1, fun hb a ha hlen => ?_, fun hb => ?_⟩
      · rw [if_pos hb] at h
        cases zg : g er with
        | none => rw [zg] at h; exact h.elim
        | some d2 =>
          rw [zg] at h
          have hl : i < X.N.length := (List.getElem?_eq_some_iff.mp hi).1
          refine h2 a cls dd er _ H' H' _ d2 zg hlen ?_ xx (Same.refl H') (fun q hq => (nomatch hq)) fun v H2 s2 r => h v ρ' σ' H2 L' (R'.same s2) (r _ _ fun b hb => fr_frA (R'.al.fr hb []))
          rw [List.getElem?_set_self (by rw [List.length_set] at hlen; omega)]
      · rw [if_neg (by rw [hb]; exact Bool.false_ne_true)] at h
        exact h cls dd ρ' σ' H' L' R' xx
    · exact h.elim
end
end DL
noncomputable section
namespace DL
open PySem PySem.Spec PySem.Calls PyProof.Rows L2
/-! ### a displayed dict of two texts -/
section
variable {X : Cx} {Wx : WX} {pos p1 p2 : Pos} {a b : Expr} {Ba Bb : List Nat} {m1 m2 : M} {k1 k2 : Str} {j1 j2 : Nat}
@[simp] def mDisp2 (k1 k2 : Str) (m1 m2 : M) : M := fun ρ ω => (m1 ρ ω).bind fun d1 => (m2 ρ ω).bind fun d2 => if D.free d1 = true ∧ D.free d2 = true then .ok (.dK [(.inr k1, d1), (.inr k2, d2)]) else .stuck
theorem free_any {W : Wd} {H H' : Hp} {S S' : Addr → Prop} {ob : Nat → Option Addr} {d : D} {v : V} (hf : D.free d = true) (ht : ∀ a xs, H a = some (.tup xs) → H' a = some (.tup xs)) (r : Rep W H S ob d v) : Rep W H' S' ob d v := by
  have r1 : Rep W H (fun _ => False) ob d v := D.free_rep d v hf r
  have r2 : Rep W H' (fun _ => False) ob d v := Rep.mono ⟨fun _ _ h => h.elim, fun _ _ h => h.elim, ht, fun _ _ h => h⟩ d v r1
  exact D.free_rep d v hf r2
theorem f_disp2 (h1 : DP X Wx Ba a m1) (h2 : DP X Wx Bb b m2) (hk : ∀ v1 v2 : V, mergeK [] [((.inr k1 : Key), v1), (.inr k2, v2)] = [(.inr k1, v1), (.inr k2, v2)]) : DF X Wx [] (.Dict [some (.Constant (.str k1) j1 p1), some (.Constant (.str k2) j2 p2)] [a, b] pos) (mDisp2 k1 k2 m1 m2) :=
  ⟨PE.weak (pe_disp (pps_cons pe_str h1.pe (pps_cons pe_str h2.pe pps_nil)) rfl rfl (by simp) (by simp)) fun σ H Q ⟨F, ρ, ω, L, R, h⟩ => by
    intro z hz
    have s0 := same_upd (o := .dK []) hz
    unfold mDisp2 at h
    refine ⟨F, ρ, ω, L, R.same s0, ?_⟩
    cases z1 : m1 ρ ω with
    | stuck => rw [z1] at h; exact h
    | err e => rw [z1] at h; exact fun c d H' s x => h c d H' (s0.trans s) x
    | ok d1 =>
      rw [z1] at h
      intro v1 H1 s1 r1
      refine ⟨F, ρ, ω, L, (R.same s0).same s1, ?_⟩
      cases z2 : m2 ρ ω with
      | stuck => rw [z2] at h; exact h
      | err e => rw [z2] at h; exact fun c d H' s x => h c d H' ((s0.trans s1).trans s) x
      | ok d2 =>
        rw [z2] at h
        intro v2 H2 s2 r2
        replace h : LeafF (wd X) Wx L [] σ H Q (if D.free d1 = true ∧ D.free d2 = true then .ok (.dK [(.inr k1, d1), (.inr k2, d2)]) else .stuck) := h
        split at h
        case isFalse => exact h.elim
        rename_i hf
        have e2 : H2 z = some (.dK []) := s2 _ _ (s1 _ _ upd_same)
        refine ⟨e2, [(.inr k1, v1), (.inr k2, v2)], rfl, by simp, ?_⟩
        rw [hk]
        have ht : ∀ a xs, H2 a = some (.tup xs) → upd H2 z (.dK [(.inr k1, v1), (.inr k2, v2)]) a = some (.tup xs) := fun a xs q => by
          rw [upd_ne (fun e => by rw [e, e2] at q; cases q)]; exact q
        refine h z _ (fun b w hw => ?_) hz ⟨_, .of upd_same, v1, _, rfl, free_any hf.1 (fun a xs q => ht a xs (s2 _ _ q)) r1, v2, [], rfl, free_any hf.2 ht r2, rfl⟩
        rw [upd_ne (fun e => by rw [e, hz] at hw; cases hw)]
        exact s2 _ _ (s1 _ _ (s0 _ _ hw))⟩
end
/-! ### a tuple with a new dict in it, which changes, and is told -/
structure Hold (W : Wd) (F : Fm) (ρ : Env') (ω : Store) (L : Lc) (σ : L2.St) (H : Hp) (i c : Nat) (ds1 : List D) (kvs : List (Key × D)) (ds2 : List D) : Prop where
  ex : ∃ (H0 : Hp) (t a5 : Addr) (vs1 vs2 : List V) (kv : List (Key × V)), Rel W F ρ ω L σ H0 ∧ Same H0 H ∧ H0 a5 = none ∧ σ[i]? = some (some (.ref t)) ∧ H t = some (.tup (vs1 ++ .ref a5 :: vs2)) ∧ vs1.length = c ∧ H a5 = some (.dK kv) ∧
    RepK W H (Fn L [] a5) (obs L) kvs kv ∧ Reps W H (Fn L [] a5) (obs L) ds1 vs1 ∧ Reps W H (Fn L [] a5) (obs L) ds2 vs2
abbrev Qm := Env' → Store → List (Key × D) → Option (List (Key × D))
def tQ (W : Wd) (i c : Nat) (q : Qm) : TS := fun G σ H => ∃ F ρ ω L ds1 kvs ds2, Hold W F ρ ω L σ H i c ds1 kvs ds2 ∧ ∃ kvs', q ρ ω kvs = some kvs' ∧ ∀ H', Hold W F ρ ω L σ H' i c ds1 kvs' ds2 → G.nx σ H'
structure DQ (X : Cx) (i c : Nat) (st : Stmt) (q : Qm) : Prop where
  ps : PS X st (tQ (wd X) i c q)
structure DQs (X : Cx) (i c : Nat) (sts : List Stmt) (q : Qm) : Prop where
  pss : PSs X sts (tQ (wd X) i c q)
def qNever : Qm := fun _ _ _ => none
@[simp] def qIf (tt : Env' → Store → Res Bool) (q1 q2 : Qm) : Qm := fun ρ ω kvs => match tt ρ ω with
  | .ok true => q1 ρ ω kvs
  | .ok false => q2 ρ ω kvs
  | _ => none
@[simp] def qPut (mk m : M) : Qm := fun ρ ω kvs => match m ρ ω with
  | .ok d => (match mk ρ ω with
    | .ok y => (match D.flatK y with
      | some k => if D.free d = true ∧ kvs.length < 1000 then some (putD kvs k d) else none
      | none => none)
    | _ => none)
  | _ => none
@[simp] def qPop (mk : M) : Qm := fun ρ ω kvs => match mk ρ ω with
  | .ok y => (match D.flatK y with
    | some k => (match kget kvs k with
      | some _ => some (dropD kvs k)
      | none => none)
    | none => none)
  | _ => none
section
variable {X : Cx} {Wx : WX} {pos p p2 p3 pos' apos cpos rp pt : Pos} {c e kx : Expr} {es : List Expr} {sts rest : List Stmt} {i n : Nat} {jj : Nat} {x : Str} {m mk m5 : M} {ma mb : MA} {B Bk : List Nat} {q q1 q2 : Qm} {st : Stmt} {tt : Env' → Store → Res Bool}
theorem Hold.same {W : Wd} {F : Fm} {ρ : Env'} {ω : Store} {L : Lc} {σ : L2.St} {H H' : Hp} {ds1 ds2 : List D} {kvs : List (Key × D)} (h : Hold W F ρ ω L σ H i n ds1 kvs ds2) (s : Same H H') : Hold W F ρ ω L σ H' i n ds1 kvs ds2 := by
  obtain ⟨H0, t, a5, vs1, vs2, kv, h1, h2, h3, h4, h5, h6, h7, h8, h9, h10⟩ := h.ex
  exact ⟨H0, t, a5, vs1, vs2, kv, h1, h2.trans s, h3, h4, s _ _ h5, h6, s _ _ h7, RepK.mono (Kp.same s) _ _ h8, Reps.mono (Kp.same s) _ _ h9, Reps.mono (Kp.same s) _ _ h10⟩
theorem Hold.rel {W : Wd} {F : Fm} {ρ : Env'} {ω : Store} {L : Lc} {σ : L2.St} {H : Hp} {ds1 ds2 : List D} {kvs : List (Key × D)} (h : Hold W F ρ ω L σ H i n ds1 kvs ds2) : Rel W F ρ ω L σ H := by
  obtain ⟨H0, t, a5, vs1, vs2, kv, h1, h2, _⟩ := h.ex
  exact h1.same h2
theorem dq_never : DQ X i n st qNever := ⟨PS.weak ps_never fun G σ H ⟨_, _, _, _, _, _, _, _, _, e, _⟩ => (nomatch e)⟩
theorem dqs_never : DQs X i n sts qNever := ⟨PSs.weak' pss_never fun G σ H ⟨_, _, _, _, _, _, _, _, _, e, _⟩ => (nomatch e)⟩
theorem dq_one (h : DQ X i n st q) : DQs X i n [st] q := ⟨pss_one h.ps⟩
theorem dq_if (hc : DB X Wx c tt) (h1 : DQs X i n sts q1) (h2 : DQs X i n rest q2) : DQ X i n (.If c sts rest pos) (qIf tt q1 q2) :=
  ⟨PS.weak (ps_if hc.pt h1.pss h2.pss) fun G σ H ⟨F, ρ, ω, L, ds1, kvs, ds2, h, kvs', e, g⟩ => by
    refine ⟨F, ρ, ω, L, h.rel, ?_⟩
    unfold qIf at e
    cases z : tt ρ ω with
    | stuck => rw [z] at e; cases e
    | err x => rw [z] at e; cases e
    | ok k =>
      rw [z] at e
      intro H' s
      cases k with
      | true => exact ⟨F, ρ, ω, L, ds1, kvs, ds2, h.same s, kvs', e, g⟩
      | false => exact ⟨F, ρ, ω, L, ds1, kvs, ds2, h.same s, kvs', e, g⟩⟩
theorem hold_upd {W : Wd} {F : Fm} {ρ : Env'} {ω : Store} {L : Lc} {σ : L2.St} {H H0 : Hp} {ds1 ds2 : List D} {kvs' : List (Key × D)} {t a5 : Addr} {vs1 vs2 : List V} {kv kv' : List (Key × V)} (h1 : Rel W F ρ ω L σ H0) (h2 : Same H0 H) (h3 : H0 a5 = none) (h4 : σ[i]? = some (some (.ref t)))
    (h5 : H t = some (.tup (vs1 ++ .ref a5 :: vs2))) (h6 : vs1.length = n) (h7 : H a5 = some (.dK kv)) (h9 : Reps W H (Fn L [] a5) (obs L) ds1 vs1) (h10 : Reps W H (Fn L [] a5) (obs L) ds2 vs2)
    (hr : ∀ (kp : Kp H (upd H a5 (.dK kv')) (Fn L [] a5) (Fn L [] a5) (obs L) (obs L)), RepK W (upd H a5 (.dK kv')) (Fn L [] a5) (obs L) kvs' kv') : Hold W F ρ ω L σ (upd H a5 (.dK kv')) i n ds1 kvs' ds2 := by
  have kp : Kp H (upd H a5 (.dK kv')) (Fn L [] a5) (Fn L [] a5) (obs L) (obs L) := ⟨fun b u f _ => f, fun b u f h => by rw [upd_ne f.2]; exact h, fun b xs h => by
    rw [upd_ne (fun e => by rw [e, h7] at h; cases h)]; exact h, fun _ _ h => h⟩
  exact ⟨H0, t, a5, vs1, vs2, kv', h1, fun b w hw => by
    rw [upd_ne (fun e => by rw [e, h3] at hw; cases hw)]; exact h2 b w hw, h3, h4, by
    rw [upd_ne (fun e => by rw [e, h7] at h5; cases h5)]; exact h5, h6, upd_same, hr kp, Reps.mono kp _ _ h9, Reps.mono kp _ _ h10⟩
theorem at_mid {vs1 vs2 : List V} {v : V} : atI (vs1 ++ v :: vs2) (vs1.length : Int) = some v := atI_nat (by
  rw [List.getElem?_append_right (Nat.le_refl _), Nat.sub_self]; rfl)
theorem dq_put (n : Nat) {z : Int} (hu : X.A.units + 64 < cLine) (hk : DU X Wx Bk kx mk) (he : DP X Wx B e m) (hN : X.N[i]? = some x := by rfl) (hv : Vis X.env.scope x := by first | exact Or.inl rfl | exact Or.inr (Or.inl rfl) | exact Or.inr (Or.inr rfl)) (hz : z = (n : Int) := by rfl) (hd : (x == ("__debug__" : Str)) = false := by decide)
    (hcd : (x == ("__classdict__" : Str)) = false := by decide) (hs : swapsWith e (some (.Subscript (.Subscript (.Name x p) (.Constant (.int z) jj p2) p3) kx pos')) pos.line X.env = pure false := by rfl) : DQ X i n (.Assign [.Subscript (.Subscript (.Name x p) (.Constant (.int z) jj p2) p3) kx pos'] e pos) (qPut mk m) :=
  ⟨PS.weak (ps_dput (by omega) (pe_ix ix_tup (pe_var (i := i) hN hv hd hcd) pe_int (fun _ _ => rfl)) hk.pe he.pe hs) fun G σ H ⟨F, ρ, ω, L, ds1, kvs, ds2, h, kvs', eq, g⟩ => by
    refine ⟨F, ρ, ω, L, h.rel, ?_⟩
    unfold qPut at eq
    cases z1 : m ρ ω with
    | stuck => rw [z1] at eq; cases eq
    | err e => rw [z1] at eq; cases eq
    | ok d =>
      rw [z1] at eq
      dsimp only at eq
      intro v H1 s1 r1
      have h1 := h.same s1
      cases z2 : mk ρ ω with
      | stuck => rw [z2] at eq; cases eq
      | err e => rw [z2] at eq; cases eq
      | ok y =>
        rw [z2] at eq
        dsimp only at eq
        split at eq
        · rename_i k hky
          split at eq
          · rename_i hf
            cases eq
            obtain ⟨H0, t, a5, vs1, vs2, kv, f1, f2, f3, f4, f5, f6, f7, f8, f9, f10⟩ := h1.ex
            refine ⟨.ref t, f4, t, _, z, .ref a5, rfl, rfl, SqT.of f5, by rw [hz, ← f6]; exact at_mid, F, ρ, ω, L, h1.rel, ?_⟩
            rw [z2]
            intro w H3 s3 qk
            have hw := flatK_ok hky qk
            rw [hw]
            refine ⟨a5, _, rfl, DPut.k (s3 _ _ f7) (by rw [repK_len f8, sizeLine_eq]; omega), g _ ?_⟩
            refine hold_upd f1 (f2.trans s3) f3 f4 (s3 _ _ f5) f6 (s3 _ _ f7) (Reps.mono (Kp.same s3) _ _ f9) (Reps.mono (Kp.same s3) _ _ f10) fun kp => ?_
            exact repK_put (RepK.mono kp _ _ (RepK.mono (Kp.same s3) _ _ f8)) (free_any hf.1 (fun a xs q => kp.t a xs (s3 _ _ q)) r1)
          · cases eq
        · cases eq⟩
theorem dq_pop (n : Nat) {z : Int} (hk : DU X Wx Bk kx mk) (hN : X.N[i]? = some x := by rfl) (hv : Vis X.env.scope x := by first | exact Or.inl rfl | exact Or.inr (Or.inl rfl) | exact Or.inr (Or.inr rfl)) (hz : z = (n : Int) := by rfl) (hd : (x == ("__debug__" : Str)) = false := by decide)
    (hcd : (x == ("__classdict__" : Str)) = false := by decide) (hm : M1 X (.Subscript (.Name x p) (.Constant (.int z) jj p2) p3) "pop" apos kx cpos := by exact ⟨rfl, rfl, rfl, rfl⟩)
    (hsw : swapsWith (.Call (.Attribute (.Subscript (.Name x p) (.Constant (.int z) jj p2) p3) "pop" apos) [kx] [] cpos) none pos.line X.env = pure false := by rfl) : DQ X i n (.Expr (.Call (.Attribute (.Subscript (.Name x p) (.Constant (.int z) jj p2) p3) "pop" apos) [kx] [] cpos) pos) (qPop mk) :=
  ⟨PS.weak (ps_expr (pe_dpop1 (pe_ix ix_tup (pe_var (i := i) hN hv hd hcd) pe_int (fun _ _ => rfl)) hk.pe hm) hsw) fun G σ H ⟨F, ρ, ω, L, ds1, kvs, ds2, h, kvs', eq, g⟩ => by
    unfold qPop at eq
    cases z2 : mk ρ ω with
    | stuck => rw [z2] at eq; cases eq
    | err e => rw [z2] at eq; cases eq
    | ok y =>
      rw [z2] at eq
      dsimp only at eq
      split at eq
      · rename_i k hky
        split at eq
        · rename_i d0 hget
          cases eq
          obtain ⟨H0, t, a5, vs1, vs2, kv, f1, f2, f3, f4, f5, f6, f7, f8, f9, f10⟩ := h.ex
          refine ⟨.ref t, f4, t, _, z, .ref a5, rfl, rfl, SqT.of f5, by rw [hz, ← f6]; exact at_mid, a5, rfl, .inl ⟨kv, .inl f7⟩, F, ρ, ω, L, h.rel, ?_⟩
          rw [z2]
          intro w H3 s3 qk
          have gg := repK_get (W := wd X) (H := H) k f8
          rw [hget] at gg
          obtain ⟨v0, g1, _⟩ := gg
          refine ⟨kv, k, v0, s3 _ _ f7, flatK_ok hky qk, g1, g _ ?_⟩
          refine hold_upd f1 (f2.trans s3) f3 f4 (s3 _ _ f5) f6 (s3 _ _ f7) (Reps.mono (Kp.same s3) _ _ f9) (Reps.mono (Kp.same s3) _ _ f10) fun kp => ?_
          exact RepK.mono kp _ _ (repK_drop (RepK.mono (Kp.same s3) _ _ f8))
        · cases eq
      · cases eq⟩
/-! the display -/
def LeafH (W : Wd) (L : Lc) (H : Hp) (c : Nat) (Q : List V → Hp → Prop) (r1 : Res (List D)) (r5 : Res D) (r2 : Res (List D)) : Prop := match r1, r5, r2 with
  | .ok ds1, .ok (.dK kvs), .ok ds2 => D.frees ds2 = true ∧ ds1.length = c ∧ ∀ vs1 a5 vs2 kv H', Same H H' → H a5 = none → H' a5 = some (.dK kv) → RepK W H' (Fn L [] a5) (obs L) kvs kv → Reps W H' (Fn L [] a5) (obs L) ds1 vs1 → Reps W H' (Fn L [] a5) (obs L) ds2 vs2 → Q (vs1 ++ .ref a5 :: vs2) H'
  | _, _, _ => False
structure DH (X : Cx) (es : List Expr) (c : Nat) (ma : MA) (m5 : M) (mb : MA) : Prop where
  pa : PA X es (fun σ H Q => ∃ F ρ ω L, Rel (wd X) F ρ ω L σ H ∧ LeafH (wd X) L H c Q (ma ρ ω) (m5 ρ ω) (mb ρ ω))
theorem h_here (h5 : DF X Wx [] e m5) (hb : DA X Wx [] es mb) (hs : starEach (e :: es) X.env = (false, eval e X.env) :: starEach es X.env := by rfl) : DH X (e :: es) 0 aNil m5 mb :=
  ⟨PA.weak (pa_cons h5.pe hb.pa hs) fun σ H Q ⟨F, ρ, ω, L, R, h⟩ => ⟨F, ρ, ω, L, R, by
    unfold LeafH at h
    cases z5 : m5 ρ ω with
    | stuck => rw [z5] at h; exact h.elim
    | err e => rw [z5] at h; exact h.elim
    | ok d =>
      rw [z5] at h
      cases d with
      | dK kvs =>
        cases z2 : mb ρ ω with
        | stuck => rw [z2] at h; exact h.elim
        | err e => rw [z2] at h; exact h.elim
        | ok ds2 =>
          rw [z2] at h
          obtain ⟨hf, _, g⟩ := h
          intro a H' s hn r
          obtain ⟨vs, ha, rk⟩ := r
          have ha := ha.1 rfl
          refine ⟨F, ρ, ω, L, R.same s, ?_⟩
          rw [z2]
          intro vs2 H2 s2 r2
          refine g [] a vs2 vs H2 (s.trans s2) hn (s2 _ _ ha) (RepK.mono (Kp.same s2) _ _ rk) rfl (D.frees_rep ds2 vs2 hf r2)
      | _ => exact h.elim⟩⟩
theorem h_cons {c : Nat} (ha : DP X Wx [] e m) (h : DH X es c ma m5 mb) (hs : starEach (e :: es) X.env = (false, eval e X.env) :: starEach es X.env := by rfl) : DH X (e :: es) (c + 1) (aCons m ma) m5 mb :=
  ⟨PA.weak (pa_cons ha.pe h.pa hs) fun σ H Q ⟨F, ρ, ω, L, R, h⟩ => ⟨F, ρ, ω, L, R, by
    have key : ∃ d ds1 kvs ds2, m ρ ω = .ok d ∧ ma ρ ω = .ok ds1 ∧ m5 ρ ω = .ok (.dK kvs) ∧ mb ρ ω = .ok ds2 ∧ LeafH (wd X) L H (c + 1) Q (.ok (d :: ds1)) (.ok (.dK kvs)) (.ok ds2) := by
      unfold aCons at h
      cases z : m ρ ω with
      | stuck => rw [z] at h; exact h.elim
      | err e => rw [z] at h; exact h.elim
      | ok d =>
        rw [z] at h
        cases z1 : ma ρ ω with
        | stuck => rw [z1] at h; exact h.elim
        | err e => rw [z1] at h; exact h.elim
        | ok ds1 =>
          rw [z1] at h
          cases z5 : m5 ρ ω with
          | stuck => rw [z5] at h; exact h.elim
          | err e => rw [z5] at h; exact h.elim
          | ok d5 =>
            rw [z5] at h
            cases d5 with
            | dK kvs =>
              cases z2 : mb ρ ω with
              | stuck => rw [z2] at h; exact h.elim
              | err e => rw [z2] at h; exact h.elim
              | ok ds2 =>
                rw [z2] at h
                exact ⟨d, ds1, kvs, ds2, rfl, rfl, rfl, rfl, h⟩
            | _ => exact h.elim
    obtain ⟨d, ds1, kvs, ds2, e1, e2, e3, e4, hf, hc, g⟩ := key
    rw [e1]
    intro v H1 s1 r1
    refine ⟨F, ρ, ω, L, R.same s1, ?_⟩
    rw [e2, e3, e4]
    refine ⟨hf, by rw [List.length_cons] at hc; omega, fun vs1 a5 vs2 kv H' s hn h5 rk q1 q2 => ?_⟩
    refine g (v :: vs1) a5 vs2 kv H' (s1.trans s) (none_back s1 a5 hn) h5 rk ⟨v, vs1, rfl, ?_, q1⟩ q2
    exact Rep.mono ⟨fun b u f hb => ⟨f, fun e => by rw [e, hn] at hb; cases hb⟩, fun b u _ hb => s b u hb, fun b xs hb => s b _ hb, fun _ _ h => h⟩ _ _ r1⟩⟩
/-- name = (.., a new dict, ..); a suite that changes it; return name -/
@[simp] def sHold (i c : Nat) (ma : MA) (m5 : M) (mb : MA) (q : Qm) : T := fun _ ρ ω => match ma ρ ω, m5 ρ ω, mb ρ ω with
  | .ok ds1, .ok (.dK kvs), .ok ds2 => if i < ρ.length ∧ D.frees ds2 = true ∧ ds1.length = c ∧ ds1.length + ds2.length ≤ 100 then (match q (ρ.set i .no) ω kvs with
    | some kvs' => .rt (.tup (ds1 ++ .dK kvs' :: ds2)) ω
    | none => .stuck) else .stuck
  | _, _, _ => .stuck
theorem reps_app {W : Wd} {H : Hp} {S : Addr → Prop} {ob : Nat → Option Addr} : ∀ {ds1 : List D} {vs1 : List V} {d : D} {v : V} {ds2 : List D} {vs2 : List V}, Reps W H S ob ds1 vs1 → Rep W H S ob d v → Reps W H S ob ds2 vs2 → Reps W H S ob (ds1 ++ d :: ds2) (vs1 ++ v :: vs2)
  | [], _, _, _, _, _, h1, h2, h3 => by rw [show _ = [] from h1]; exact ⟨_, _, rfl, h2, h3⟩
  | a :: ds1, _, _, _, _, _, ⟨v, r, e, p, q⟩, h2, h3 => by
    subst e
    exact ⟨v, _, rfl, p, reps_app q h2 h3⟩
theorem s_hold {c : Nat} {k : Nat} (hN : X.N.Nodup) (hi : X.N[i]? = some x) (hx : Loc X.env.scope x) (hv : Vis X.env.scope x) (ha : DH X es c ma m5 mb) (hq : DQ X i c st q) (hd : (x == ("__debug__" : Str)) = false := by decide) (hcd : (x == ("__classdict__" : Str)) = false := by decide)
    (hs : swapsWith (.Tuple es k pt) (some (.Name x p)) pos.line X.env = pure false := by rfl) (hf : X.fn x = true ∨ X.env.scope.names.lookup x = some .local := by first | exact .inl rfl | exact .inr rfl | assumption) :
    DSs X Wx [.Assign [.Name x p] (.Tuple es k pt) pos, st, .Return (some (.Name x p2)) rp] (sHold i c ma m5 mb q) :=
  ⟨PSs.weak' (pss_cons (ps_set hN hi hx (pe_tup ha.pa) hs hf) (pss_cons hq.ps (pss_one (ps_ret (pe_var (i := i) hi hv hd hcd))))) fun G σ H ⟨F, ρ, ω, L, R, h⟩ => by
    have key : ∃ ds1 kvs ds2 kvs', ma ρ ω = .ok ds1 ∧ m5 ρ ω = .ok (.dK kvs) ∧ mb ρ ω = .ok ds2 ∧ (i < ρ.length ∧ D.frees ds2 = true ∧ ds1.length = c ∧ ds1.length + ds2.length ≤ 100) ∧ q (ρ.set i .no) ω kvs = some kvs' ∧ LeafS (wd X) Wx F G (.rt (.tup (ds1 ++ .dK kvs' :: ds2)) ω) := by
      unfold sHold at h
      cases z1 : ma ρ ω with
      | stuck => rw [z1] at h; exact h.elim
      | err e => rw [z1] at h; exact h.elim
      | ok ds1 =>
        rw [z1] at h
        cases z5 : m5 ρ ω with
        | stuck => rw [z5] at h; exact h.elim
        | err e => rw [z5] at h; exact h.elim
        | ok d5 =>
          rw [z5] at h
          cases d5 with
          | dK kvs =>
            cases z2 : mb ρ ω with
            | stuck => rw [z2] at h; exact h.elim
            | err e => rw [z2] at h; exact h.elim
            | ok ds2 =>
              rw [z2] at h
              replace h : LeafS (wd X) Wx F G (if i < ρ.length ∧ D.frees ds2 = true ∧ ds1.length = c ∧ ds1.length + ds2.length ≤ 100 then (match q (ρ.set i .no) ω kvs with
                | some kvs' => .rt (.tup (ds1 ++ .dK kvs' :: ds2)) ω
                | none => .stuck) else .stuck) := h
              split at h
              · rename_i hh
                cases zq : q (ρ.set i .no) ω kvs with
                | none => rw [zq] at h; exact h.elim
                | some kvs' => rw [zq] at h; exact ⟨ds1, kvs, ds2, kvs', rfl, rfl, rfl, hh, zq, h⟩
              · exact h.elim
          | _ => exact h.elim
    obtain ⟨ds1, kvs, ds2, kvs', e1, e2, e3, ⟨g1, g2, g3, g4⟩, eq, fin⟩ := key
    refine ⟨F, ρ, ω, L, R, ?_⟩
    rw [e1, e2, e3]
    refine ⟨g2, g3, fun vs1 a5 vs2 kv H1 s hn h5 rk r1 r2 => ⟨?_, fun z hz => ?_⟩⟩
    · rw [List.length_append, List.length_cons, r1.len, r2.len, sizeLine_eq]; omega
    have sm := same_upd (o := .tup (vs1 ++ .ref a5 :: vs2)) hz
    have kk : Kp H1 (upd H1 z (.tup (vs1 ++ .ref a5 :: vs2))) (Fn L [] a5) (Fn (lcS L i none) [] a5) (obs L) (obs (lcS L i none)) := ⟨fun b u f hb => ⟨(kp_none (Same.refl H1)).s b u f.1 hb, f.2⟩, fun b u _ hb => sm b u hb, fun b xs hb => sm b _ hb, fun m b hb => (kp_none (H := H1) (H' := H1) (Same.refl H1)).o m b hb⟩
    refine ⟨F, ρ.set i .no, ω, lcS L i none, ds1, kvs, ds2, ⟨H, z, a5, vs1, vs2, kv, R.junk g1 (.ref z), s.trans sm, hn, by rw [List.getElem?_set_self (by rw [R.len]; exact g1)], upd_same, by rw [r1.len]; exact g3, sm _ _ h5, RepK.mono kk _ _ rk, Reps.mono kk _ _ r1, Reps.mono kk _ _ r2⟩, kvs', eq, fun H' hh => ?_⟩
    obtain ⟨H0, t, b5, us1, us2, kw, f1, f2, f3, f4, f5, f6, f7, f8, f9, f10⟩ := hh.ex
    refine ⟨.ref t, f4, fin (.ref t) _ _ H' _ (f1.same f2) ⟨t, _, rfl, f5, ?_⟩⟩
    have kf : Kp H' H' (Fn (lcS L i none) [] b5) (FrA (lcS L i none)) (obs (lcS L i none)) (obs (lcS L i none)) := ⟨fun b u f _ => fr_frA f.1, fun _ _ _ h => h, fun _ _ h => h, fun _ _ h => h⟩
    exact reps_app (Reps.mono kf _ _ f9) ⟨b5, kw, rfl, fr_frA (f1.al.fr f3 []), .inl f7, RepK.mono kf _ _ f8⟩ (Reps.mono kf _ _ f10)⟩
end
/-! a call without arguments -/
section
variable {X : Cx} {Wx : WX} {pos p : Pos} {x : Str} {g : Fu} {j k : Nat}
theorem pe_callSD0 {CX : CXT} {f : Addr} {fd : FuncData} {ps : List Str} {sp : Sp} {ds : List Value} {dvs : List V} {E : L2.St → XK} (F : FnOk X.prog X.w X.K X.mg X.base CX k f fd ps sp) (hr : Room k X.A) (hg : Gl X x) (hm : X.mg x = some (.ref f)) (hk : PySem.W.keepIn X.K (.ref f) = true) (hb : Binds X.K fd ps ds) (hd : Vals dvs ds) (hx : ∀ σ, PassesAt CX X σ (E σ))
    (hdb : (x == ("__debug__" : Str)) = false := by decide) : PE X (.Call (.Name x p) [] [] pos) (tCallSD sp dvs E tNil) := by
  refine ⟨fun pins s σ H Q I h => ?_⟩
  refine wpAny_Call_Name_kw (ld_glob I hg hm ?_ hdb)
  exact PySem.W.callWith_K0 I.kIn hk (run_fnSD (us := []) F hr hb hd (hx σ) I .nil h)
theorem d_callF0 (c : Fc X.prog X.w X.K X.mg X.base j x 0 g) (hr : Room k X.A) (tk : Takes X Wx) (hg : Gl X x := by rfl) (hj : j ≤ k := by decide) (hdb : (x == ("__debug__" : Str)) = false := by decide) : DP X Wx [] (.Call (.Name x p) [] [] pos) (mCall 0 g aNil) := by
  obtain ⟨f, fd, ps, h1, h2, h3, h4, h5⟩ := c.ex
  refine ⟨PE.weak (pe_callSD0 (h5.mono hj) hr hg h1 h2 h3 .nil (passAt tk) hdb) fun σ H Q ⟨F0, ρ, ω, L, R, h⟩ => ?_⟩
  replace h : Leaf (wd X) Wx L [] σ H Q (ofRR ω (g ω.length [] ω)) := h
  refine ⟨rfl, ω.length, lcC L [], ω, [], R.into [] ω.length (fun n h1 h2 => absurd h1 (Nat.not_lt.mpr h2)), lcC_no, rfl, ?_⟩
  cases zg : g ω.length [] ω with
  | stuck => rw [zg] at h; exact h
  | er e ω' =>
    rw [zg] at h
    exact fun cls dd H2 L' R' ns x => h cls dd H2 (call_keep R R' (Nat.le_refl _)) x
  | ok d ω' =>
    rw [zg] at h
    replace h : Leaf (wd X) Wx L [] σ H Q (if ω'.length = ω.length then .ok d else .stuck) := h
    split at h
    · rename_i hl
      exact fun v H2 L' R' ns r => h v H2 (call_keep R R' (Nat.le_refl _)) (Rep.mono (call_back R R' (Nat.le_refl _) hl) d v r)
    · exact h.elim
end
end DL
noncomputable section
namespace Wk11
open PySem PySem.Spec PySem.Calls PyProof.Rows L2 DL
def top (i : Nat) : Stmt := PySem.Challenge.pw_shellround_k11_fleets_out_and_home.main.body.getD i (.Pass ⟨0, 0, 0, 0⟩)
def excs : List Str := ["BadRing", "BadName", "Taken", "NoIsland", "NoPerson", "NotNeighbours", "Twice", "NotPartners", "Owing", "BadKind", "BadRank", "NoThing", "WrongWay", "NoFleet", "BadWay", "Away", "NotAway", "Promised", "BadSeason", "NoGift"]
def isC_Away (c : Str) : Bool := c == "Away"
def isC_BadWay (c : Str) : Bool := c == "BadWay"
def isC_NoIsland (c : Str) : Bool := c == "NoIsland"
def isC_NotAway (c : Str) : Bool := c == "NotAway"
/-! look_ring -/
abbrev s_look_ring : Stmt := (top 35)
abbrev N_look_ring : List Str := ["islands"]
def m_look_ring : T := (sIf (bOr (b2 (mV 0) (mC (.int 3)) gLt) (b2 (mV 0) (mC (.int 20)) gGt)) (fun _ _ ω => .er ⟨"BadRing", "bad ring"⟩ ω) sNx)
def fu_look_ring : Fu := fuOf 1 m_look_ring
theorem sc_look_ring : FnScope N_look_ring ["islands"] (defScope s_look_ring) := ⟨rfl, rfl, rfl, by decide +kernel, rfl, by decide +kernel, by decide +kernel⟩
theorem ok_look_ring {P : Program} {w : World} {K : PySem.W.Frag} {mg : Str → Option Value} {base : Heap} {f : Addr} {fd : FuncData} (F : FunD K "look_ring" "look_ring" (defArgs s_look_ring) (defBody s_look_ring) (defScope s_look_ring) [] [] f fd) (gm : mg "look_ring" = some (.ref f)) (h_FEWEST : ∃ t, mg "FEWEST" = some (.int 3 t)) (h_MOST : ∃ t, mg "MOST" = some (.int 20 t)) (x_BadRing : Xc P w K mg base "BadRing" "bad ring") : Fc P w K mg base 4 "look_ring" 1 fu_look_ring := by
  have sc := sc_look_ring
  exact fc_ok F sc gm (FunD.bindsN (ps := ["islands"]) F fun _ _ _ _ _ _ us hl => match us, hl with | [_], _ => rfl) rfl (fun cdv A outer s H E hr => (s_one (s_if (DW.db (w_or (t_lt (u_var 0) (DP.u (d_globI rfl h_FEWEST))) (w_or1 (t_gt (u_var 0) (DP.u (d_globI rfl h_MOST)))))) (s_one (s_raiseC rfl tkB x_BadRing hr)) s_nil)))
/-! look_island -/
abbrev s_look_island : Stmt := (top 36)
abbrev N_look_island : List Str := ["islands", "island"]
def m_look_island : T := (sq (sDrop (mCall 1 fu_look_ring (aCons (mV 0) aNil)))
    (sIf (bOr (b2 (mV 1) (mC (.int 0)) gLt) (b2 (mV 1) (mV 0) gGe)) (fun _ _ ω => .er ⟨"NoIsland", "no island"⟩ ω) sNx))
def fu_look_island : Fu := fuOf 2 m_look_island
theorem sc_look_island : FnScope N_look_island ["islands", "island"] (defScope s_look_island) := ⟨rfl, rfl, rfl, by decide +kernel, rfl, by decide +kernel, by decide +kernel⟩
theorem ok_look_island {P : Program} {w : World} {K : PySem.W.Frag} {mg : Str → Option Value} {base : Heap} {f : Addr} {fd : FuncData} (F : FunD K "look_island" "look_island" (defArgs s_look_island) (defBody s_look_island) (defScope s_look_island) [] [] f fd) (gm : mg "look_island" = some (.ref f)) (c_look_ring : Fc P w K mg base 4 "look_ring" 1 fu_look_ring) (x_NoIsland : Xc P w K mg base "NoIsland" "no island") : Fc P w K mg base 5 "look_island" 2 fu_look_island := by
  have sc := sc_look_island
  exact fc_ok F sc gm (FunD.bindsN (ps := ["islands", "island"]) F fun _ _ _ _ _ _ us hl => match us, hl with | [_, _], _ => rfl) rfl (fun cdv A outer s H E hr => (s_cons (s_expr (d_callF c_look_ring hr tkB (a_cons (d_var 0) a_nil)))
      (s_one (s_if (DW.db (w_or (t_lt (u_var 1) (DP.u d_int)) (w_or1 (t_ge (u_var 1) (u_var 0))))) (s_one (s_raiseC rfl tkB x_NoIsland hr)) s_nil))))
/-! onward -/
abbrev s_onward : Stmt := (top 37)
abbrev N_onward : List Str := ["islands", "island", "steps"]
def m_onward : T := (sq (sDrop (mCall 2 fu_look_island (aCons (mV 0) (aCons (mV 1) aNil))))
    (sRet (m2 (m2 (mV 1) (mV 2) gAdd) (mV 0) gMod)))
def fu_onward : Fu := fuOf 3 m_onward
theorem sc_onward : FnScope N_onward ["islands", "island", "steps"] (defScope s_onward) := ⟨rfl, rfl, rfl, by decide +kernel, rfl, by decide +kernel, by decide +kernel⟩
theorem ok_onward {P : Program} {w : World} {K : PySem.W.Frag} {mg : Str → Option Value} {base : Heap} {f : Addr} {fd : FuncData} (F : FunD K "onward" "onward" (defArgs s_onward) (defBody s_onward) (defScope s_onward) [] [] f fd) (gm : mg "onward" = some (.ref f)) (c_look_island : Fc P w K mg base 5 "look_island" 2 fu_look_island) : Fc P w K mg base 6 "onward" 3 fu_onward := by
  have sc := sc_onward
  exact fc_ok F sc gm (FunD.bindsN (ps := ["islands", "island", "steps"]) F fun _ _ _ _ _ _ us hl => match us, hl with | [_, _, _], _ => rfl) rfl (fun cdv A outer s H E hr => (s_cons (s_expr (d_callF c_look_island hr tkB (a_cons (d_var 0) (a_cons (d_var 1) a_nil))))
      (s_one (s_ret (d_mod (DP.u (d_add (u_var 1) (u_var 2))) (u_var 0))))))
/-! House_lies_at -/
abbrev s_House_lies_at : Stmt := (inClass (top 47) 18)
abbrev N_House_lies_at : List Str := ["self", "island"]
def m_House_lies_at : T := (sq (sIf (b2 (mV 1) (mFld "House" "fleets" (mV 0)) gNotIn) (sRet (mV 1)) sNx)
    (sq (sIf (b2 (m2 (mFld "House" "fleets" (mV 0)) (mV 1) gIx) (m2 (mC (.ctup ([("forward" : Str), ("backward" : Str)].map .str))) (mC (.int 0)) gIx) gEq) (sRet (mCall 3 fu_onward (aCons (mFldV "House" "islands" (mV 0)) (aCons (mV 1) (aCons (mC (.int 1)) aNil))))) sNx)
    (sRet (mCall 3 fu_onward (aCons (mFldV "House" "islands" (mV 0)) (aCons (mV 1) (aCons (m1 (mC (.int 1)) gNeg) aNil)))))))
def fu_House_lies_at : Fu := fuOf 2 m_House_lies_at
theorem sc_House_lies_at : FnScope N_House_lies_at ["self", "island"] (defScope s_House_lies_at) := ⟨rfl, rfl, rfl, by decide +kernel, rfl, by decide +kernel, by decide +kernel⟩
theorem ok_House_lies_at {P : Program} {w : World} {K : PySem.W.Frag} {mg : Str → Option Value} {base : Heap} {f : Addr} {fd : FuncData} {C : Addr} (F : FunD K "lies_at" "House.lies_at" (defArgs s_House_lies_at) (defBody s_House_lies_at) (defScope s_House_lies_at) [] [] f fd) (gm : mg "House" = some (.ref C)) (hcl : Cls K C) (hmt : Meth K C "lies_at" f) (h_WAYS : Ct K mg "WAYS" ["forward", "backward"]) (fl_House_fleets : FldK K mg "House" "fleets") (fl_House_islands : FldK K mg "House" "islands") (c_onward : Fc P w K mg base 6 "onward" 3 fu_onward) : Mc P w K mg base 7 "House" "lies_at" 2 fu_House_lies_at := by
  have sc := sc_House_lies_at
  exact mc_ok F sc gm hcl hmt (FunD.bindsN (ps := ["self", "island"]) F fun _ _ _ _ _ _ us hl => match us, hl with | [_, _], _ => rfl) rfl (fun cdv A outer s H E hr => (s_cons (s_if (t_nin hr.units (u_var 1) (u_fld "House" (FldK.x fl_House_fleets) (u_var 0))) (s_one (s_ret (d_var 1))) s_nil)
      (s_cons (s_if (t_eq hr.units (DP.u (d_ix hr.units (u_fld "House" (FldK.x fl_House_fleets) (u_var 0)) (u_var 1))) (DP.u (d_ix hr.units (DP.u (d_ctS rfl h_WAYS)) (DP.u d_int)))) (s_one (s_ret (d_callF c_onward hr tkB (a_cons (d_fld "House" (FldK.x fl_House_islands) (d_var 0)) (a_cons (d_var 1) (a_cons d_int a_nil)))))) s_nil)
      (s_one (s_ret (d_callF c_onward hr tkB (a_cons (d_fld "House" (FldK.x fl_House_islands) (d_var 0)) (a_cons (d_var 1) (a_cons (d_neg (DP.u d_int)) a_nil)))))))))
/-! fleets -/
abbrev s_fleets : Stmt := (top 49)
abbrev N_fleets : List Str := ["house", "island"]
def m_fleets : T := (sRet (mComp 1 [] (iLst (m1 (mFld "House" "fleets" (mV 0)) gSorted)) bTrue (mTup (aCons (mV 1) (aCons (mMeth "House" "lies_at" 2 fu_House_lies_at (mV 0) (aCons (mV 1) aNil)) aNil)))))
def fu_fleets : Fu := fuOf 2 m_fleets
theorem sc_fleets : FnScope N_fleets ["house"] (defScope s_fleets) := ⟨rfl, rfl, rfl, by decide +kernel, rfl, by decide +kernel, by decide +kernel⟩
theorem ok_fleets {P : Program} {w : World} {K : PySem.W.Frag} {mg : Str → Option Value} {base : Heap} {f : Addr} {fd : FuncData} (F : FunD K "fleets" "fleets" (defArgs s_fleets) (defBody s_fleets) (defScope s_fleets) [] [] f fd) (gm : mg "fleets" = some (.ref f)) (h_sorted : mg "sorted" = none) (fl_House_fleets : FldK K mg "House" "fleets") (c_House_lies_at : Mc P w K mg base 7 "House" "lies_at" 2 fu_House_lies_at) : Fc P w K mg base 8 "fleets" 1 fu_fleets := by
  have sc := sc_fleets
  exact fc_ok F sc gm (FunD.bindsN (ps := ["house"]) F fun _ _ _ _ _ _ us hl => match us, hl with | [_], _ => rfl) rfl (fun cdv A outer s H E hr => (s_one (s_ret (DF.dp (f_lc (x := "island") (i := 1) rfl sc.nd (i_list (DF.dp (DL.f_sorted rfl rfl h_sorted (u_fld "House" (FldK.x fl_House_fleets) (u_var 0))))) (blkOk_by (N := N_fleets) (sc := defScope s_fleets) (by decide +kernel)) (fun _ _ _ _ _ => pg_name sc.nd rfl (.inl rfl) (.inr rfl)) (fun _ _ _ _ _ => ts_nil) (fun _ _ _ _ _ => (d_tup (a_cons (d_var 1) (a_cons (d_meth c_House_lies_at hr takes0 (u_var 0) (a_cons (d_var 1) a_nil) (by omega)) a_nil)))))))))
/-! _law_cell -/
abbrev s__law_cell : Stmt := (top 51)
abbrev N__law_cell : List Str := ["_law_script", "_law_k"]
def m__law_cell : T := (sq (sIf (b2 (mV 1) (m1 (mV 0) gLen) gLt) (sRet (m2 (mV 0) (mV 1) gIx)) sNx)
    (sRet (mC (.int 0))))
def fu__law_cell : Fu := fuOf 2 m__law_cell
theorem sc__law_cell : FnScope N__law_cell ["_law_script", "_law_k"] (defScope s__law_cell) := ⟨rfl, rfl, rfl, by decide +kernel, rfl, by decide +kernel, by decide +kernel⟩
theorem ok__law_cell {P : Program} {w : World} {K : PySem.W.Frag} {mg : Str → Option Value} {base : Heap} {f : Addr} {fd : FuncData} (F : FunD K "_law_cell" "_law_cell" (defArgs s__law_cell) (defBody s__law_cell) (defScope s__law_cell) [] [] f fd) (gm : mg "_law_cell" = some (.ref f)) (h_len : mg "len" = none) : Fc P w K mg base 1 "_law_cell" 2 fu__law_cell := by
  have sc := sc__law_cell
  exact fc_ok F sc gm (FunD.bindsN (ps := ["_law_script", "_law_k"]) F fun _ _ _ _ _ _ us hl => match us, hl with | [_, _], _ => rfl) rfl (fun cdv A outer s H E hr => (s_cons (s_if (t_lt (u_var 1) (DP.u (DL.d_len rfl h_len (u_var 0)))) (s_one (s_ret (d_ix hr.units (u_var 0) (u_var 1)))) s_nil)
      (s_one (s_ret d_int))))
/-! _law_draws -/
abbrev s__law_draws : Stmt := (top 52)
abbrev N__law_draws : List Str := ["_law_cell_here", "_law_parts", "_law_one", "_law_two", "_law_six", "_law_found", "_law_part"]
def m__law_draws : T := (sq (sIf (b2 (m1 (mV 0) gAbs) (m2 (mC (.int 10)) (mC (.int 18)) gPow) gLt) (sq (sSet 2 ((([] ++ []) ++ []) ++ []) (m2 (m2 (m2 (mV 0) (mC (.int 48271)) gMul) (mC (.int 11)) gAdd) (mC (.int 2147483647)) gMod))
    (sq (sSet 3 (((([] ++ []) ++ ([] ++ [])) ++ []) ++ []) (m2 (m2 (m2 (m2 (mV 2) (mV 2) gMul) (m2 (mC (.int 40692)) (mV 2) gMul) gAdd) (mV 0) gAdd) (mC (.int 2147483399)) gMod))
    (sq (sSet 4 ((([] ++ []) ++ []) ++ []) (m2 (m2 (m2 (mV 3) (mC (.int 16807)) gMul) (mV 2) gAdd) (mC (.int 1000000007)) gMod))
    (sSet 0 ([] ++ ([] ++ ([] ++ ([] ++ [])))) (m2 (mV 3) (m2 (mC (.int 2147483399)) (m2 (mV 4) (m2 (mC (.int 1000000007)) (mV 2) gMul) gAdd) gMul) gAdd))))) (sSet 0 ([] ++ ([] ++ [])) (m2 (m1 (mV 0) gAbs) (m2 (mC (.int 10)) (mC (.int 18)) gPow) gSub)))
    (sq (sSetO 5 [] (mLst aNil))
    (sq (sFor [1] (iLst (mV 1)) (gN 6) (sq (sApp 5 ([] ++ []) (m2 (mV 0) (mV 6) gMod))
    (sSet 0 ([] ++ []) (m2 (mV 0) (mV 6) gDiv))))
    (sRet (mV 5)))))
def fu__law_draws : Fu := fuOf 7 m__law_draws
theorem sc__law_draws : FnScope N__law_draws ["_law_cell_here", "_law_parts"] (defScope s__law_draws) := ⟨rfl, rfl, rfl, by decide +kernel, rfl, by decide +kernel, by decide +kernel⟩
theorem ok__law_draws {P : Program} {w : World} {K : PySem.W.Frag} {mg : Str → Option Value} {base : Heap} {f : Addr} {fd : FuncData} (F : FunD K "_law_draws" "_law_draws" (defArgs s__law_draws) (defBody s__law_draws) (defScope s__law_draws) [] [] f fd) (gm : mg "_law_draws" = some (.ref f)) (h_abs : mg "abs" = none) : Fc P w K mg base 1 "_law_draws" 2 fu__law_draws := by
  have sc := sc__law_draws
  exact fc_ok F sc gm (FunD.bindsN (ps := ["_law_cell_here", "_law_parts"]) F fun _ _ _ _ _ _ us hl => match us, hl with | [_, _], _ => rfl) rfl (fun cdv A outer s H E hr => (s_cons (s_if (t_lt (DP.u (DL.d_abs rfl h_abs (u_var 0))) (DP.u (d_pow (DP.u d_int) (DP.u d_int)))) (s_cons (s_set sc.nd rfl (by first | exact .inl rfl | exact .inr rfl) (d_mod (DP.u (d_add (DP.u (d_mul (u_var 0) (DP.u d_int))) (DP.u d_int))) (DP.u d_int)))
      (s_cons (s_set sc.nd rfl (by first | exact .inl rfl | exact .inr rfl) (d_mod (DP.u (d_add (DP.u (d_add (DP.u (d_mul (u_var 2) (u_var 2))) (DP.u (d_mul (DP.u d_int) (u_var 2))))) (u_var 0))) (DP.u d_int)))
      (s_cons (s_set sc.nd rfl (by first | exact .inl rfl | exact .inr rfl) (d_mod (DP.u (d_add (DP.u (d_mul (u_var 3) (DP.u d_int))) (u_var 2))) (DP.u d_int)))
      (s_one (s_set sc.nd rfl (by first | exact .inl rfl | exact .inr rfl) (d_add (u_var 3) (DP.u (d_mul (DP.u d_int) (DP.u (d_add (u_var 4) (DP.u (d_mul (DP.u d_int) (u_var 2))))))))))))) (s_one (s_set sc.nd rfl (by first | exact .inl rfl | exact .inr rfl) (d_sub (DP.u (DL.d_abs rfl h_abs (u_var 0))) (DP.u (d_pow (DP.u d_int) (DP.u d_int)))))))
      (s_cons (s_setO sc.nd rfl (by first | exact .inl rfl | exact .inr rfl) (f_lst a_nil))
      (s_cons (s_for hpB rfl (i_list (d_var 1)) (g_name sc.nd rfl (by first | exact .inl rfl | exact .inr rfl)) (s_cons (s_app 5 (d_mod (u_var 0) (u_var 6)))
      (s_one (s_set sc.nd rfl (by first | exact .inl rfl | exact .inr rfl) (d_fdiv (u_var 0) (u_var 6))))))
      (s_one (s_ret (d_var 5)))))))
/-! _law_same -/
abbrev s__law_same : Stmt := (top 53)
abbrev N__law_same : List Str := ["_law_found", "_law_due", "_law_k"]
def m__law_same (self : Fu) : T := (sq (sIf (b2 (mV 1) (mC .non) gIs) (sRet (m2 (mV 0) (mC .non) gIs)) sNx)
    (sq (sIf (bV (m1 (mV 1) (gIs2 "bool"))) (sRet (mAnd (m1 (mV 0) (gIs2 "bool")) (m2 (mV 0) (mV 1) gEq))) sNx)
    (sq (sIf (bV (m1 (mV 1) (gIs2 "int"))) (sRet (mAnd (m1 (mV 0) (gIs2 "int")) (mAnd (m1 (m1 (mV 0) (gIs2 "bool")) gNot) (m2 (mV 0) (mV 1) gEq)))) sNx)
    (sq (sIf (bV (m1 (mV 1) (gIs2 "str"))) (sRet (mAnd (m1 (mV 0) (gIs2 "str")) (m2 (mV 0) (mV 1) gEq))) sNx)
    (sq (sIf (bOr (b2 (m1 (mV 1) (gIs2 "list")) (m1 (mV 0) (gIs2 "list")) gNe) (b2 (m1 (mV 1) (gIs2 "tuple")) (m1 (mV 0) (gIs2 "tuple")) gNe)) (sRet (mC (.bl false))) sNx)
    (sq (sIf (b2 (m1 (mV 0) gLen) (m1 (mV 1) gLen) gNe) (sRet (mC (.bl false))) sNx)
    (sRet (m1 (mComp 2 [] (iRng (m1 (mV 1) gLen)) bTrue (mCall 2 self (aCons (m2 (mV 0) (mV 2) gIx) (aCons (m2 (mV 1) (mV 2) gIx) aNil)))) gAll))))))))
def fuR__law_same : Nat → Fu
  | 0 => fun _ _ _ => .stuck
  | k + 1 => fuOf 3 (m__law_same (fuR__law_same k))
theorem sc__law_same : FnScope N__law_same ["_law_found", "_law_due"] (defScope s__law_same) := ⟨rfl, rfl, rfl, by decide +kernel, rfl, by decide +kernel, by decide +kernel⟩
theorem ok__law_same {P : Program} {w : World} {K : PySem.W.Frag} {mg : Str → Option Value} {base : Heap} {f : Addr} {fd : FuncData} (F : FunD K "_law_same" "_law_same" (defArgs s__law_same) (defBody s__law_same) (defScope s__law_same) [] [] f fd) (gm : mg "_law_same" = some (.ref f)) (h_all : mg "all" = none) (h_bool : mg "bool" = none) (h_int : mg "int" = none) (h_isinstance : mg "isinstance" = none) (h_len : mg "len" = none) (h_list : mg "list" = none) (h_range : mg "range" = none) (h_str : mg "str" = none) (h_tuple : mg "tuple" = none) : ∀ k, Fc P w K mg base (1 + k) "_law_same" 2 (fuR__law_same k)
  | 0 => fc_stuck0 F gm (FunD.bindsN (ps := ["_law_found", "_law_due"]) F fun _ _ _ _ _ _ us hl => match us, hl with | [_, _], _ => rfl) rfl
  | k + 1 => by
    have c__law_same := ok__law_same (P := P) (w := w) (base := base) F gm h_all h_bool h_int h_isinstance h_len h_list h_range h_str h_tuple k
    have sc := sc__law_same
    exact fc_ok (k := 1 + k) F sc gm (FunD.bindsN (ps := ["_law_found", "_law_due"]) F fun _ _ _ _ _ _ us hl => match us, hl with | [_, _], _ => rfl) rfl (fun cdv A outer s H E hr => (s_cons (s_if (t_is (u_var 1) (DP.u d_non)) (s_one (s_ret (d_is (u_var 0) (DP.u d_non)))) s_nil)
      (s_cons (s_if (t_val (d_isi "bool" rfl h_isinstance rfl h_bool (u_var 1))) (s_one (s_ret (v_and (DP.u (d_isi "bool" rfl h_isinstance rfl h_bool (u_var 0))) (v_one (d_eq hr.units (u_var 0) (u_var 1)))))) s_nil)
      (s_cons (s_if (t_val (d_isi "int" rfl h_isinstance rfl h_int (u_var 1))) (s_one (s_ret (v_and (DP.u (d_isi "int" rfl h_isinstance rfl h_int (u_var 0))) (v_and (DP.u (v_not (DP.u (d_isi "bool" rfl h_isinstance rfl h_bool (u_var 0))))) (v_one (d_eq hr.units (u_var 0) (u_var 1))))))) s_nil)
      (s_cons (s_if (t_val (d_isi "str" rfl h_isinstance rfl h_str (u_var 1))) (s_one (s_ret (v_and (DP.u (d_isi "str" rfl h_isinstance rfl h_str (u_var 0))) (v_one (d_eq hr.units (u_var 0) (u_var 1)))))) s_nil)
      (s_cons (s_if (DW.db (w_or (t_ne hr.units (DP.u (d_isi "list" rfl h_isinstance rfl h_list (u_var 1))) (DP.u (d_isi "list" rfl h_isinstance rfl h_list (u_var 0)))) (w_or1 (t_ne hr.units (DP.u (d_isi "tuple" rfl h_isinstance rfl h_tuple (u_var 1))) (DP.u (d_isi "tuple" rfl h_isinstance rfl h_tuple (u_var 0))))))) (s_one (s_ret d_bl)) s_nil)
      (s_cons (s_if (t_ne hr.units (DP.u (DL.d_len rfl h_len (u_var 0))) (DP.u (DL.d_len rfl h_len (u_var 1)))) (s_one (s_ret d_bl)) s_nil)
      (s_one (s_ret (DL.d_all rfl rfl h_all (DP.u (DF.dp (f_lc (x := "_law_k") (i := 2) rfl sc.nd (i_range rfl h_range (DP.u (DL.d_len rfl h_len (u_var 1)))) (blkOk_by (N := N__law_same) (sc := defScope s__law_same) (by decide +kernel)) (fun _ _ _ _ _ => pg_name sc.nd rfl (.inl rfl) (.inr rfl)) (fun _ _ _ _ _ => ts_nil) (fun _ _ _ _ _ => (d_callF c__law_same hr takes0 (a_cons (d_ix hr.units (u_var 0) (u_var 2)) (a_cons (d_ix hr.units (u_var 1) (u_var 2)) a_nil)) rfl (by omega))))))))))))))))
/-! _law_start -/
abbrev s__law_start : Stmt := (top 54)
abbrev N__law_start : List Str := []
def m__law_start : T := (sRet (mTup (aCons (mC (.dK [])) (aCons (mC (.dK [])) (aCons (mC (.dK [])) (aCons (mLst aNil) (aCons (mLst aNil) (aCons (mC (.dK [])) (aCons (mC (.int 0)) aNil)))))))))
def fu__law_start : Fu := fuOf 0 m__law_start
theorem sc__law_start : FnScope N__law_start [] (defScope s__law_start) := ⟨rfl, rfl, rfl, by decide +kernel, rfl, by decide +kernel, by decide +kernel⟩
theorem ok__law_start {P : Program} {w : World} {K : PySem.W.Frag} {mg : Str → Option Value} {base : Heap} {f : Addr} {fd : FuncData} (F : FunD K "_law_start" "_law_start" (defArgs s__law_start) (defBody s__law_start) (defScope s__law_start) [] [] f fd) (gm : mg "_law_start" = some (.ref f))  : Fc P w K mg base 1 "_law_start" 0 fu__law_start := by
  have sc := sc__law_start
  exact fc_ok F sc gm (FunD.bindsN (ps := []) F fun _ _ _ _ _ _ us hl => match us, hl with | [], _ => rfl) rfl (fun cdv A outer s H E hr => (s_one (s_ret (d_tup (a_cons (DF.dp f_dK) (a_cons (DF.dp f_dK) (a_cons (DF.dp f_dK) (a_cons (DF.dp (f_lst a_nil)) (a_cons (DF.dp (f_lst a_nil)) (a_cons (DF.dp f_dK) (a_cons d_int a_nil)))))))))))
/-! _law_lies -/
abbrev s__law_lies : Stmt := (top 56)
abbrev N__law_lies : List Str := ["_law_state", "_law_n", "_law_island", "_law_way"]
def m__law_lies : T := (sq (sSet 3 ([] ++ ((([] ++ []) ++ ([] ++ [])) ++ [])) (mGet2 (mDisp2 "forward" "backward" (mC (.int 1)) (m1 (mC (.int 1)) gNeg)) (mGet2 (m2 (mV 0) (mC (.int 5)) gIx) (mV 2) (mC (.str ""))) (mC (.int 0))))
    (sRet (m2 (m2 (mV 2) (mV 3) gAdd) (mV 1) gMod)))
def fu__law_lies : Fu := fuOf 4 m__law_lies
theorem sc__law_lies : FnScope N__law_lies ["_law_state", "_law_n", "_law_island"] (defScope s__law_lies) := ⟨rfl, rfl, rfl, by decide +kernel, rfl, by decide +kernel, by decide +kernel⟩
theorem ok__law_lies {P : Program} {w : World} {K : PySem.W.Frag} {mg : Str → Option Value} {base : Heap} {f : Addr} {fd : FuncData} (F : FunD K "_law_lies" "_law_lies" (defArgs s__law_lies) (defBody s__law_lies) (defScope s__law_lies) [] [] f fd) (gm : mg "_law_lies" = some (.ref f))  : Fc P w K mg base 1 "_law_lies" 3 fu__law_lies := by
  have sc := sc__law_lies
  exact fc_ok F sc gm (FunD.bindsN (ps := ["_law_state", "_law_n", "_law_island"]) F fun _ _ _ _ _ _ us hl => match us, hl with | [_, _, _], _ => rfl) rfl (fun cdv A outer s H E hr => (s_cons (s_set sc.nd rfl (by first | exact .inl rfl | exact .inr rfl) (d_get2 hr.units (DP.u (DF.dp (f_disp2 d_int (d_neg (DP.u d_int)) (fun _ _ => rfl)))) (DP.u (d_get2 hr.units (DP.u (d_ix hr.units (u_var 0) (DP.u d_int))) (u_var 2) d_str)) d_int))
      (s_one (s_ret (d_mod (DP.u (d_add (u_var 2) (u_var 3))) (u_var 1))))))
/-! _law_next -/
abbrev s__law_next : Stmt := (top 60)
abbrev N__law_next : List Str := ["_law_state", "_law_n", "_law_deed", "_law_pledge_here", "_law_fresh"]
def m__law_next : T := (sq (sIf (b2 (m2 (mV 2) (mC (.int 0)) gIx) (mC (.str "give")) gEq) sStuck sNx)
    (sq (sIf (b2 (m2 (mV 2) (mC (.int 0)) gIx) (mC (.str "season")) gEq) sStuck sNx)
    (sq (sIf (b2 (m2 (mV 2) (mC (.int 0)) gIx) (mC (.str "vow")) gEq) (sq sStuck
    sStuck) sNx)
    (sHold 4 5 (aCons (m1 (m2 (mV 0) (mC (.int 0)) gIx) gDict) (aCons (m1 (m2 (mV 0) (mC (.int 1)) gIx) gDict) (aCons (m1 (m2 (mV 0) (mC (.int 2)) gIx) gDict) (aCons (m2 (mV 0) (mC (.int 3)) gIx) (aCons (m2 (mV 0) (mC (.int 4)) gIx) aNil))))) (m1 (m2 (mV 0) (mC (.int 5)) gIx) gDict) (aCons (m2 (mV 0) (mC (.int 6)) gIx) aNil) (qIf (b2 (m2 (mV 2) (mC (.int 0)) gIx) (mC (.str "person")) gEq) qNever (qIf (b2 (m2 (mV 2) (mC (.int 0)) gIx) (mC (.str "partners")) gEq) qNever (qIf (b2 (m2 (mV 2) (mC (.int 0)) gIx) (mC (.str "part")) gEq) qNever (qIf (b2 (m2 (mV 2) (mC (.int 0)) gIx) (mC (.str "make")) gEq) qNever (qIf (b2 (m2 (mV 2) (mC (.int 0)) gIx) (mC (.str "sail")) gEq) (qPut (m2 (mV 2) (mC (.int 1)) gIx) (m2 (mV 2) (mC (.int 2)) gIx)) (qPop (m2 (mV 2) (mC (.int 1)) gIx)))))))))))
def fu__law_next : Fu := fuOf 5 m__law_next
theorem sc__law_next : FnScope N__law_next ["_law_state", "_law_n", "_law_deed"] (defScope s__law_next) := ⟨rfl, rfl, rfl, by decide +kernel, rfl, by decide +kernel, by decide +kernel⟩
theorem ok__law_next {P : Program} {w : World} {K : PySem.W.Frag} {mg : Str → Option Value} {base : Heap} {f : Addr} {fd : FuncData} (F : FunD K "_law_next" "_law_next" (defArgs s__law_next) (defBody s__law_next) (defScope s__law_next) [] [] f fd) (gm : mg "_law_next" = some (.ref f)) (h_dict : mg "dict" = none) : Fc P w K mg base 1 "_law_next" 3 fu__law_next := by
  have sc := sc__law_next
  exact fc_ok F sc gm (FunD.bindsN (ps := ["_law_state", "_law_n", "_law_deed"]) F fun _ _ _ _ _ _ us hl => match us, hl with | [_, _, _], _ => rfl) rfl (fun cdv A outer s H E hr => (s_cons (s_if (t_eq hr.units (DP.u (d_ix hr.units (u_var 2) (DP.u d_int))) (DP.u d_str)) (s_one s_never) s_nil)
      (s_cons (s_if (t_eq hr.units (DP.u (d_ix hr.units (u_var 2) (DP.u d_int))) (DP.u d_str)) (s_one s_never) s_nil)
      (s_cons (s_if (t_eq hr.units (DP.u (d_ix hr.units (u_var 2) (DP.u d_int))) (DP.u d_str)) (s_cons s_never
      (s_one s_never)) s_nil)
      (s_hold (i := 4) sc.nd rfl (by first | exact .inl rfl | exact .inr rfl) (by first | exact Or.inl rfl | exact Or.inr (Or.inl rfl)) (h_cons (Wx := fun cls d _ H => E cls d H) (DF.dp (DL.f_dict rfl h_dict (DP.u (d_ix hr.units (u_var 0) (DP.u d_int))))) (h_cons (Wx := fun cls d _ H => E cls d H) (DF.dp (DL.f_dict rfl h_dict (DP.u (d_ix hr.units (u_var 0) (DP.u d_int))))) (h_cons (Wx := fun cls d _ H => E cls d H) (DF.dp (DL.f_dict rfl h_dict (DP.u (d_ix hr.units (u_var 0) (DP.u d_int))))) (h_cons (Wx := fun cls d _ H => E cls d H) (d_ix hr.units (u_var 0) (DP.u d_int)) (h_cons (Wx := fun cls d _ H => E cls d H) (d_ix hr.units (u_var 0) (DP.u d_int)) (h_here (Wx := fun cls d _ H => E cls d H) (DL.f_dict rfl h_dict (DP.u (d_ix hr.units (u_var 0) (DP.u d_int)))) (a_cons (d_ix hr.units (u_var 0) (DP.u d_int)) a_nil))))))) (dq_if (Wx := fun cls d _ H => E cls d H) (t_eq hr.units (DP.u (d_ix hr.units (u_var 2) (DP.u d_int))) (DP.u d_str)) dqs_never (dq_one (dq_if (Wx := fun cls d _ H => E cls d H) (t_eq hr.units (DP.u (d_ix hr.units (u_var 2) (DP.u d_int))) (DP.u d_str)) dqs_never (dq_one (dq_if (Wx := fun cls d _ H => E cls d H) (t_eq hr.units (DP.u (d_ix hr.units (u_var 2) (DP.u d_int))) (DP.u d_str)) dqs_never (dq_one (dq_if (Wx := fun cls d _ H => E cls d H) (t_eq hr.units (DP.u (d_ix hr.units (u_var 2) (DP.u d_int))) (DP.u d_str)) dqs_never (dq_one (dq_if (Wx := fun cls d _ H => E cls d H) (t_eq hr.units (DP.u (d_ix hr.units (u_var 2) (DP.u d_int))) (DP.u d_str)) (dq_one (dq_put (Wx := fun cls d _ H => E cls d H) (i := 4) 5 hr.units (DP.u (d_ix hr.units (u_var 2) (DP.u d_int))) (d_ix hr.units (u_var 2) (DP.u d_int)))) (dq_one (dq_pop (Wx := fun cls d _ H => E cls d H) (i := 4) 5 (DP.u (d_ix hr.units (u_var 2) (DP.u d_int)))))))))))))))))))
/-! House_look_island -/
abbrev s_House_look_island : Stmt := (inClass (top 47) 7)
abbrev N_House_look_island : List Str := ["self", "island"]
def m_House_look_island : T := (sIf (bOr (b2 (mV 1) (mC (.int 0)) gLt) (b2 (mV 1) (mFld "House" "islands" (mV 0)) gGe)) (fun _ _ ω => .er ⟨"NoIsland", "no island"⟩ ω) sNx)
def fu_House_look_island : Fu := fuOf 2 m_House_look_island
theorem sc_House_look_island : FnScope N_House_look_island ["self", "island"] (defScope s_House_look_island) := ⟨rfl, rfl, rfl, by decide +kernel, rfl, by decide +kernel, by decide +kernel⟩
theorem ok_House_look_island {P : Program} {w : World} {K : PySem.W.Frag} {mg : Str → Option Value} {base : Heap} {f : Addr} {fd : FuncData} {C : Addr} (F : FunD K "look_island" "House.look_island" (defArgs s_House_look_island) (defBody s_House_look_island) (defScope s_House_look_island) [] [] f fd) (gm : mg "House" = some (.ref C)) (hcl : Cls K C) (hmt : Meth K C "look_island" f) (fl_House_islands : FldK K mg "House" "islands") (x_NoIsland : Xc P w K mg base "NoIsland" "no island") : Mc P w K mg base 4 "House" "look_island" 2 fu_House_look_island := by
  have sc := sc_House_look_island
  exact mc_ok F sc gm hcl hmt (FunD.bindsN (ps := ["self", "island"]) F fun _ _ _ _ _ _ us hl => match us, hl with | [_, _], _ => rfl) rfl (fun cdv A outer s H E hr => (s_one (s_if (DW.db (w_or (t_lt (u_var 1) (DP.u d_int)) (w_or1 (t_ge (u_var 1) (u_fld "House" (FldK.x fl_House_islands) (u_var 0)))))) (s_one (s_raiseC rfl tkB x_NoIsland hr)) s_nil)))
/-! House_stand -/
abbrev s_House_stand : Stmt := (inClass (top 47) 1)
abbrev N_House_stand : List Str := ["self", "first"]
def m_House_stand : T := (sq (sSet 1 ([] ++ ([] ++ ([] ++ []))) (mTup (aCons (m1 (mFld "House" "homes" (mV 0)) gDict) (aCons (m1 (mFld "House" "friends" (mV 0)) gDict) (aCons (m1 (mFld "House" "goods" (mV 0)) gDict) aNil)))))
    (sRet (m2 (mV 1) (mTup (aCons (m1 (mFld "House" "record" (mV 0)) gList) (aCons (m1 (mFld "House" "pledges" (mV 0)) gList) (aCons (m1 (mFld "House" "fleets" (mV 0)) gDict) (aCons (mFldV "House" "now" (mV 0)) aNil))))) gAdd)))
def fu_House_stand : Fu := fuOf 2 m_House_stand
theorem sc_House_stand : FnScope N_House_stand ["self"] (defScope s_House_stand) := ⟨rfl, rfl, rfl, by decide +kernel, rfl, by decide +kernel, by decide +kernel⟩
theorem ok_House_stand {P : Program} {w : World} {K : PySem.W.Frag} {mg : Str → Option Value} {base : Heap} {f : Addr} {fd : FuncData} {C : Addr} (F : FunD K "stand" "House.stand" (defArgs s_House_stand) (defBody s_House_stand) (defScope s_House_stand) [] [] f fd) (gm : mg "House" = some (.ref C)) (hcl : Cls K C) (hmt : Meth K C "stand" f) (h_dict : mg "dict" = none) (h_list : mg "list" = none) (fl_House_fleets : FldK K mg "House" "fleets") (fl_House_friends : FldK K mg "House" "friends") (fl_House_goods : FldK K mg "House" "goods") (fl_House_homes : FldK K mg "House" "homes") (fl_House_now : FldK K mg "House" "now") (fl_House_pledges : FldK K mg "House" "pledges") (fl_House_record : FldK K mg "House" "record") : Mc P w K mg base 1 "House" "stand" 1 fu_House_stand := by
  have sc := sc_House_stand
  exact mc_ok F sc gm hcl hmt (FunD.bindsN (ps := ["self"]) F fun _ _ _ _ _ _ us hl => match us, hl with | [_], _ => rfl) rfl (fun cdv A outer s H E hr => (s_cons (s_set sc.nd rfl (by first | exact .inl rfl | exact .inr rfl) (d_tup (a_cons (DF.dp (DL.f_dict rfl h_dict (u_fld "House" (FldK.x fl_House_homes) (u_var 0)))) (a_cons (DF.dp (DL.f_dict rfl h_dict (u_fld "House" (FldK.x fl_House_friends) (u_var 0)))) (a_cons (DF.dp (DL.f_dict rfl h_dict (u_fld "House" (FldK.x fl_House_goods) (u_var 0)))) a_nil)))))
      (s_one (s_ret (d_add (u_var 1) (DP.u (d_tup (a_cons (DF.dp (DL.f_list rfl rfl h_list (u_fld "House" (FldK.x fl_House_record) (u_var 0)))) (a_cons (DF.dp (DL.f_list rfl rfl h_list (u_fld "House" (FldK.x fl_House_pledges) (u_var 0)))) (a_cons (DF.dp (DL.f_dict rfl h_dict (u_fld "House" (FldK.x fl_House_fleets) (u_var 0)))) (a_cons (d_fld "House" (FldK.x fl_House_now) (d_var 0)) a_nil)))))))))))
/-! House_mark -/
abbrev s_House_mark : Stmt := (inClass (top 47) 3)
abbrev N_House_mark : List Str := ["self", "deed"]
def m_House_mark : T := (sq (sAppF "House" "done" [1] (mV 0) (mV 1))
    (sq (sAppF "House" "past" [] (mV 0) (mMeth "House" "stand" 1 fu_House_stand (mV 0) aNil))
    (sFldO "House" "later" [] (mV 0) (mLst aNil))))
def fu_House_mark : Fu := fuOf 2 m_House_mark
theorem sc_House_mark : FnScope N_House_mark ["self", "deed"] (defScope s_House_mark) := ⟨rfl, rfl, rfl, by decide +kernel, rfl, by decide +kernel, by decide +kernel⟩
theorem ok_House_mark {P : Program} {w : World} {K : PySem.W.Frag} {mg : Str → Option Value} {base : Heap} {f : Addr} {fd : FuncData} {C : Addr} (F : FunD K "mark" "House.mark" (defArgs s_House_mark) (defBody s_House_mark) (defScope s_House_mark) [] [] f fd) (gm : mg "House" = some (.ref C)) (hcl : Cls K C) (hmt : Meth K C "mark" f) (fl_House_done : FldK K mg "House" "done") (fl_House_later : FldK K mg "House" "later") (fl_House_past : FldK K mg "House" "past") (c_House_stand : Mc P w K mg base 1 "House" "stand" 1 fu_House_stand) : Mc P w K mg base 2 "House" "mark" 2 fu_House_mark := by
  have sc := sc_House_mark
  exact mc_ok F sc gm hcl hmt (FunD.bindsN (ps := ["self", "deed"]) F fun _ _ _ _ _ _ us hl => match us, hl with | [_, _], _ => rfl) rfl (fun cdv A outer s H E hr => (s_cons (s_appF (FldK.x fl_House_done) (u_var 0) (d_var 1))
      (s_cons (s_appF (FldK.x fl_House_past) (u_var 0) (d_meth0 c_House_stand hr tkB (u_var 0) (by omega)))
      (s_one (s_fldO (FldK.x fl_House_later) (u_var 0) (f_lst a_nil))))))
/-! House_sail -/
abbrev s_House_sail : Stmt := (inClass (top 47) 16)
abbrev N_House_sail : List Str := ["self", "island", "way"]
def m_House_sail : T := (sq (sDrop (mMeth "House" "look_island" 2 fu_House_look_island (mV 0) (aCons (mV 1) aNil)))
    (sq (sIf (b2 (mV 2) (mC (.ctup ([("forward" : Str), ("backward" : Str)].map .str))) gNotIn) (fun _ _ ω => .er ⟨"BadWay", "bad way"⟩ ω) sNx)
    (sq (sIf (b2 (mV 1) (mFld "House" "fleets" (mV 0)) gIn) (fun _ _ ω => .er ⟨"Away", "away"⟩ ω) sNx)
    (sq (sDropX (xMeth "House" "mark" 2 fu_House_mark (mV 0) (xaP (([] ++ ([1] ++ ([2] ++ []))) ++ []) (aCons (mTup (aCons (mC (.str "sail")) (aCons (mV 1) (aCons (mV 2) aNil)))) aNil))))
    (sPutF "House" "fleets" [2] (mV 0) (mV 1) (mV 2))))))
def fu_House_sail : Fu := fuOf 3 m_House_sail
theorem sc_House_sail : FnScope N_House_sail ["self", "island", "way"] (defScope s_House_sail) := ⟨rfl, rfl, rfl, by decide +kernel, rfl, by decide +kernel, by decide +kernel⟩
theorem ok_House_sail {P : Program} {w : World} {K : PySem.W.Frag} {mg : Str → Option Value} {base : Heap} {f : Addr} {fd : FuncData} {C : Addr} (F : FunD K "sail" "House.sail" (defArgs s_House_sail) (defBody s_House_sail) (defScope s_House_sail) [] [] f fd) (gm : mg "House" = some (.ref C)) (hcl : Cls K C) (hmt : Meth K C "sail" f) (h_WAYS : Ct K mg "WAYS" ["forward", "backward"]) (fl_House_fleets : FldK K mg "House" "fleets") (c_House_look_island : Mc P w K mg base 4 "House" "look_island" 2 fu_House_look_island) (c_House_mark : Mc P w K mg base 2 "House" "mark" 2 fu_House_mark) (x_Away : Xc P w K mg base "Away" "away") (x_BadWay : Xc P w K mg base "BadWay" "bad way") : Mc P w K mg base 5 "House" "sail" 3 fu_House_sail := by
  have sc := sc_House_sail
  exact mc_ok F sc gm hcl hmt (FunD.bindsN (ps := ["self", "island", "way"]) F fun _ _ _ _ _ _ us hl => match us, hl with | [_, _, _], _ => rfl) rfl (fun cdv A outer s H E hr => (s_cons (s_expr (d_meth c_House_look_island hr tkB (u_var 0) (a_cons (d_var 1) a_nil) (by omega)))
      (s_cons (s_if (t_nin hr.units (u_var 2) (DP.u (d_ctS rfl h_WAYS))) (s_one (s_raiseC rfl tkB x_BadWay hr)) s_nil)
      (s_cons (s_if (t_in hr.units (u_var 1) (u_fld "House" (FldK.x fl_House_fleets) (u_var 0))) (s_one (s_raiseC rfl tkB x_Away hr)) s_nil)
      (s_cons (sx_expr (x_meth c_House_mark hr tkB (u_var 0) (xa_pure (a_cons (d_tup (a_cons d_str (a_cons (d_var 1) (a_cons (d_var 2) a_nil)))) a_nil)) (by omega)))
      (s_one (s_putF hr.units (FldK.x fl_House_fleets) (u_var 0) (u_var 1) (d_var 2))))))))
/-! House_home -/
abbrev s_House_home : Stmt := (inClass (top 47) 17)
abbrev N_House_home : List Str := ["self", "island"]
def m_House_home : T := (sq (sDrop (mMeth "House" "look_island" 2 fu_House_look_island (mV 0) (aCons (mV 1) aNil)))
    (sq (sIf (b2 (mV 1) (mFld "House" "fleets" (mV 0)) gNotIn) (fun _ _ ω => .er ⟨"NotAway", "not away"⟩ ω) sNx)
    (sq (sDropX (xMeth "House" "mark" 2 fu_House_mark (mV 0) (xaP (([] ++ ([1] ++ [])) ++ []) (aCons (mTup (aCons (mC (.str "home")) (aCons (mV 1) aNil))) aNil))))
    (sPopF "House" "fleets" (mV 0) (mV 1)))))
def fu_House_home : Fu := fuOf 2 m_House_home
theorem sc_House_home : FnScope N_House_home ["self", "island"] (defScope s_House_home) := ⟨rfl, rfl, rfl, by decide +kernel, rfl, by decide +kernel, by decide +kernel⟩
theorem ok_House_home {P : Program} {w : World} {K : PySem.W.Frag} {mg : Str → Option Value} {base : Heap} {f : Addr} {fd : FuncData} {C : Addr} (F : FunD K "home" "House.home" (defArgs s_House_home) (defBody s_House_home) (defScope s_House_home) [] [] f fd) (gm : mg "House" = some (.ref C)) (hcl : Cls K C) (hmt : Meth K C "home" f) (fl_House_fleets : FldK K mg "House" "fleets") (c_House_look_island : Mc P w K mg base 4 "House" "look_island" 2 fu_House_look_island) (c_House_mark : Mc P w K mg base 2 "House" "mark" 2 fu_House_mark) (x_NotAway : Xc P w K mg base "NotAway" "not away") : Mc P w K mg base 5 "House" "home" 2 fu_House_home := by
  have sc := sc_House_home
  exact mc_ok F sc gm hcl hmt (FunD.bindsN (ps := ["self", "island"]) F fun _ _ _ _ _ _ us hl => match us, hl with | [_, _], _ => rfl) rfl (fun cdv A outer s H E hr => (s_cons (s_expr (d_meth c_House_look_island hr tkB (u_var 0) (a_cons (d_var 1) a_nil) (by omega)))
      (s_cons (s_if (t_nin hr.units (u_var 1) (u_fld "House" (FldK.x fl_House_fleets) (u_var 0))) (s_one (s_raiseC rfl tkB x_NotAway hr)) s_nil)
      (s_cons (sx_expr (x_meth c_House_mark hr tkB (u_var 0) (xa_pure (a_cons (d_tup (a_cons d_str (a_cons (d_var 1) a_nil))) a_nil)) (by omega)))
      (s_one (s_popF (FldK.x fl_House_fleets) (u_var 0) (u_var 1)))))))
/-! _law_do -/
abbrev s__law_do : Stmt := (top 61)
abbrev N__law_do : List Str := ["_law_house", "_law_deed"]
def m__law_do : T := (sq (sIf (b2 (m2 (mV 1) (mC (.int 0)) gIx) (mC (.str "person")) gEq) sStuck sNx)
    (sq (sIf (b2 (m2 (mV 1) (mC (.int 0)) gIx) (mC (.str "partners")) gEq) sStuck sNx)
    (sq (sIf (b2 (m2 (mV 1) (mC (.int 0)) gIx) (mC (.str "part")) gEq) sStuck sNx)
    (sq (sIf (b2 (m2 (mV 1) (mC (.int 0)) gIx) (mC (.str "make")) gEq) sStuck sNx)
    (sq (sIf (b2 (m2 (mV 1) (mC (.int 0)) gIx) (mC (.str "sail")) gEq) (sRetX (xMeth "House" "sail" 3 fu_House_sail (mV 0) (xaP (([] ++ []) ++ (([] ++ []) ++ [])) (aCons (m2 (mV 1) (mC (.int 1)) gIx) (aCons (m2 (mV 1) (mC (.int 2)) gIx) aNil))))) sNx)
    (sq (sIf (b2 (m2 (mV 1) (mC (.int 0)) gIx) (mC (.str "home")) gEq) (sRetX (xMeth "House" "home" 2 fu_House_home (mV 0) (xaP (([] ++ []) ++ []) (aCons (m2 (mV 1) (mC (.int 1)) gIx) aNil)))) sNx)
    (sq (sIf (b2 (m2 (mV 1) (mC (.int 0)) gIx) (mC (.str "give")) gEq) sStuck sNx)
    sStuck)))))))
def fu__law_do : Fu := fuOf 2 m__law_do
theorem sc__law_do : FnScope N__law_do ["_law_house", "_law_deed"] (defScope s__law_do) := ⟨rfl, rfl, rfl, by decide +kernel, rfl, by decide +kernel, by decide +kernel⟩
theorem ok__law_do {P : Program} {w : World} {K : PySem.W.Frag} {mg : Str → Option Value} {base : Heap} {f : Addr} {fd : FuncData} (F : FunD K "_law_do" "_law_do" (defArgs s__law_do) (defBody s__law_do) (defScope s__law_do) [] [] f fd) (gm : mg "_law_do" = some (.ref f)) (c_House_home : Mc P w K mg base 5 "House" "home" 2 fu_House_home) (c_House_sail : Mc P w K mg base 5 "House" "sail" 3 fu_House_sail) : Fc P w K mg base 6 "_law_do" 2 fu__law_do := by
  have sc := sc__law_do
  exact fc_ok F sc gm (FunD.bindsN (ps := ["_law_house", "_law_deed"]) F fun _ _ _ _ _ _ us hl => match us, hl with | [_, _], _ => rfl) rfl (fun cdv A outer s H E hr => (s_cons (s_if (t_eq hr.units (DP.u (d_ix hr.units (u_var 1) (DP.u d_int))) (DP.u d_str)) (s_one s_never) s_nil)
      (s_cons (s_if (t_eq hr.units (DP.u (d_ix hr.units (u_var 1) (DP.u d_int))) (DP.u d_str)) (s_one s_never) s_nil)
      (s_cons (s_if (t_eq hr.units (DP.u (d_ix hr.units (u_var 1) (DP.u d_int))) (DP.u d_str)) (s_one s_never) s_nil)
      (s_cons (s_if (t_eq hr.units (DP.u (d_ix hr.units (u_var 1) (DP.u d_int))) (DP.u d_str)) (s_one s_never) s_nil)
      (s_cons (s_if (t_eq hr.units (DP.u (d_ix hr.units (u_var 1) (DP.u d_int))) (DP.u d_str)) (s_one (sx_ret (x_meth c_House_sail hr tkB (u_var 0) (xa_pure (a_cons (d_ix hr.units (u_var 1) (DP.u d_int)) (a_cons (d_ix hr.units (u_var 1) (DP.u d_int)) a_nil))) (by omega)))) s_nil)
      (s_cons (s_if (t_eq hr.units (DP.u (d_ix hr.units (u_var 1) (DP.u d_int))) (DP.u d_str)) (s_one (sx_ret (x_meth c_House_home hr tkB (u_var 0) (xa_pure (a_cons (d_ix hr.units (u_var 1) (DP.u d_int)) a_nil)) (by omega)))) s_nil)
      (s_cons (s_if (t_eq hr.units (DP.u (d_ix hr.units (u_var 1) (DP.u d_int))) (DP.u d_str)) (s_one s_never) s_nil)
      (s_one s_never)))))))))
/-! _law_islands -/
abbrev s__law_islands : Stmt := (top 62)
abbrev N__law_islands : List Str := ["_law_cell_here"]
def m__law_islands : T := (sRet (m2 (mLst (aCons (mC (.int 3)) (aCons (mC (.int 3)) (aCons (mC (.int 4)) (aCons (mC (.int 3)) (aCons (mC (.int 5)) (aCons (mC (.int 4)) (aCons (mC (.int 6)) (aCons (mC (.int 20)) (aCons (mC (.int 3)) (aCons (mC (.int 7)) (aCons (mC (.int 13)) aNil)))))))))))) (m2 (mCall 2 fu__law_draws (aCons (mV 0) (aCons (mLst (aCons (mC (.int 11)) aNil)) aNil))) (mC (.int 0)) gIx) gIx))
def fu__law_islands : Fu := fuOf 1 m__law_islands
theorem sc__law_islands : FnScope N__law_islands ["_law_cell_here"] (defScope s__law_islands) := ⟨rfl, rfl, rfl, by decide +kernel, rfl, by decide +kernel, by decide +kernel⟩
theorem ok__law_islands {P : Program} {w : World} {K : PySem.W.Frag} {mg : Str → Option Value} {base : Heap} {f : Addr} {fd : FuncData} (F : FunD K "_law_islands" "_law_islands" (defArgs s__law_islands) (defBody s__law_islands) (defScope s__law_islands) [] [] f fd) (gm : mg "_law_islands" = some (.ref f)) (c__law_draws : Fc P w K mg base 1 "_law_draws" 2 fu__law_draws) : Fc P w K mg base 2 "_law_islands" 1 fu__law_islands := by
  have sc := sc__law_islands
  exact fc_ok F sc gm (FunD.bindsN (ps := ["_law_cell_here"]) F fun _ _ _ _ _ _ us hl => match us, hl with | [_], _ => rfl) rfl (fun cdv A outer s H E hr => (s_one (s_ret (d_ix hr.units (DP.u (DF.dp (f_lst (a_cons d_int (a_cons d_int (a_cons d_int (a_cons d_int (a_cons d_int (a_cons d_int (a_cons d_int (a_cons d_int (a_cons d_int (a_cons d_int (a_cons d_int a_nil)))))))))))))) (DP.u (d_ix hr.units (DP.u (d_callF c__law_draws hr tkB (a_cons (d_var 0) (a_cons (DF.dp (f_lst (a_cons d_int a_nil))) a_nil)))) (DP.u d_int)))))))
/-! _law_asked -/
abbrev s__law_asked : Stmt := (top 63)
abbrev N__law_asked : List Str := ["_law_house", "_law_deed", "e", "_law_flags"]
def m__law_asked : T := (sTry excs (fun _ => true) (sRetX (xTup (xaCons (xP [] (mC (.str "told"))) (xaCons (xCall 2 fu__law_do (xaP ([0] ++ ([1] ++ [])) (aCons (mV 0) (aCons (mV 1) aNil)))) (xaP [] aNil))))) (fun er : Er => ((fun er : Er => ((fun er : Er => ((fun er : Er => if er.cls ∈ excs then some (D.bl (isC_NoIsland er.cls)) else none) er).bind fun d => ((fun er : Er => ((fun er : Er => if er.cls ∈ excs then some (D.bl (isC_BadWay er.cls)) else none) er).bind fun d => ((fun er : Er => ((fun er : Er => if er.cls ∈ excs then some (D.bl (isC_Away er.cls)) else none) er).bind fun d => ((fun er : Er => ((fun er : Er => if er.cls ∈ excs then some (D.bl (isC_NotAway er.cls)) else none) er).bind fun d => ((fun _ : Er => some ([] : List D)) er).map fun ds => d :: ds) er).map fun ds => d :: ds) er).map fun ds => d :: ds) er).map fun ds => d :: ds) er).bind fun ds => if ds.length ≤ 100 then some (D.lst ds) else none) er).bind fun _ => (fun er : Er => ((fun er : Er => ((fun _ : Er => some (D.str "refused")) er).bind fun d => ((fun er : Er => ((fun er : Er => if er.cls ∈ excs then some (D.str er.word) else none) er).bind fun d => ((fun er : Er => ((fun er : Er => ((fun er : Er => ((fun er : Er => if er.cls ∈ excs then some (D.bl (isC_NoIsland er.cls)) else none) er).bind fun d => ((fun er : Er => ((fun er : Er => if er.cls ∈ excs then some (D.bl (isC_BadWay er.cls)) else none) er).bind fun d => ((fun er : Er => ((fun er : Er => if er.cls ∈ excs then some (D.bl (isC_Away er.cls)) else none) er).bind fun d => ((fun er : Er => ((fun er : Er => if er.cls ∈ excs then some (D.bl (isC_NotAway er.cls)) else none) er).bind fun d => ((fun _ : Er => some ([] : List D)) er).map fun ds => d :: ds) er).map fun ds => d :: ds) er).map fun ds => d :: ds) er).map fun ds => d :: ds) er).bind fun ds => if ds.length ≤ 100 then some (D.lst ds) else none) er).bind fun d => ((fun _ : Er => some ([] : List D)) er).map fun ds => d :: ds) er).map fun ds => d :: ds) er).map fun ds => d :: ds) er).bind fun ds => if ds.length ≤ 100 then some (D.tup ds) else none) er))
def fu__law_asked : Fu := fuOf 4 m__law_asked
theorem sc__law_asked : FnScope N__law_asked ["_law_house", "_law_deed"] (defScope s__law_asked) := ⟨rfl, rfl, rfl, by decide +kernel, rfl, by decide +kernel, by decide +kernel⟩
theorem ok__law_asked {P : Program} {w : World} {K : PySem.W.Frag} {mg : Str → Option Value} {base : Heap} {f : Addr} {fd : FuncData} (F : FunD K "_law_asked" "_law_asked" (defArgs s__law_asked) (defBody s__law_asked) (defScope s__law_asked) [] [] f fd) (gm : mg "_law_asked" = some (.ref f)) (h_isinstance : mg "isinstance" = none) (c__law_do : Fc P w K mg base 6 "_law_do" 2 fu__law_do) (xw : ∀ c ∈ excs, ∀ C, mg c = some (.ref C) → XfC K C ∧ PySem.W.findIn K (.ref C) "word" = some none) (xi_Away : mg "Away" = some (.ref (He.ga K "Away")) ∧ ∀ c ∈ excs, ∀ C, mg c = some (.ref C) → ExcC K C ∧ PySem.W.kitOne K (.ref C) (.ref (He.ga K "Away")) = some (isC_Away c)) (xi_BadWay : mg "BadWay" = some (.ref (He.ga K "BadWay")) ∧ ∀ c ∈ excs, ∀ C, mg c = some (.ref C) → ExcC K C ∧ PySem.W.kitOne K (.ref C) (.ref (He.ga K "BadWay")) = some (isC_BadWay c)) (xi_NoIsland : mg "NoIsland" = some (.ref (He.ga K "NoIsland")) ∧ ∀ c ∈ excs, ∀ C, mg c = some (.ref C) → ExcC K C ∧ PySem.W.kitOne K (.ref C) (.ref (He.ga K "NoIsland")) = some (isC_NoIsland c)) (xi_NotAway : mg "NotAway" = some (.ref (He.ga K "NotAway")) ∧ ∀ c ∈ excs, ∀ C, mg c = some (.ref C) → ExcC K C ∧ PySem.W.kitOne K (.ref C) (.ref (He.ga K "NotAway")) = some (isC_NotAway c)) (xm_RoundError : mg "RoundError" = some (.ref (He.ga K "RoundError")) ∧ ∀ c ∈ excs, ∀ C, mg c = some (.ref C) → PySem.W.exmOne K (.ref C) (.ref (He.ga K "RoundError")) = some ((fun _ => true) c)) : Fc P w K mg base 7 "_law_asked" 2 fu__law_asked := by
  have sc := sc__law_asked
  exact fc_ok F sc gm (FunD.bindsN (ps := ["_law_house", "_law_deed"]) F fun _ _ _ _ _ _ us hl => match us, hl with | [_, _], _ => rfl) rfl (fun cdv A outer s H E hr => (s_one (s_trySu (i := 2) excs (fun _ => true) sc.nd rfl rfl ⟨rfl, rfl, .inl xm_RoundError.1⟩ tkB xm_RoundError.2 (fun W pn xe tk1 hp1 => (s_one (sx_ret (x_tup (xa_cons (x_pure d_str) (xa_cons (x_callF c__law_do hr tk1 (xa_pure (a_cons (d_var 0) (a_cons (d_var 1) a_nil))) rfl (by omega)) (xa_pure a_nil))))))) (su_set (Γ' := []) (gg_lst (gg_cons (g_of (e_isi excs (isC_NoIsland) rfl h_isinstance rfl (by first | exact Or.inl rfl | exact Or.inr (Or.inl rfl)) (fun _ _ _ => pe_glob (v := .ref _) rfl xi_NoIsland.1 rfl) (fun _ h => h) xi_NoIsland.2)) (gg_cons (g_of (e_isi excs (isC_BadWay) rfl h_isinstance rfl (by first | exact Or.inl rfl | exact Or.inr (Or.inl rfl)) (fun _ _ _ => pe_glob (v := .ref _) rfl xi_BadWay.1 rfl) (fun _ h => h) xi_BadWay.2)) (gg_cons (g_of (e_isi excs (isC_Away) rfl h_isinstance rfl (by first | exact Or.inl rfl | exact Or.inr (Or.inl rfl)) (fun _ _ _ => pe_glob (v := .ref _) rfl xi_Away.1 rfl) (fun _ h => h) xi_Away.2)) (gg_cons (g_of (e_isi excs (isC_NotAway) rfl h_isinstance rfl (by first | exact Or.inl rfl | exact Or.inr (Or.inl rfl)) (fun _ _ _ => pe_glob (v := .ref _) rfl xi_NotAway.1 rfl) (fun _ h => h) xi_NotAway.2)) gg_nil))))) (su_ret (gg_tup (gg_cons (g_of e_str) (gg_cons (g_of (e_word excs rfl (by first | exact Or.inl rfl | exact Or.inr (Or.inl rfl)) xw)) (gg_cons (g_var 3 List.mem_cons_self rfl (by first | exact Or.inl rfl | exact Or.inr (Or.inl rfl))) gg_nil))))) sc.nd rfl (by first | exact .inl rfl | exact .inr rfl) (by decide) (by intro q hq; simp at hq)))))
/-! _law_sea_word -/
abbrev s__law_sea_word : Stmt := (top 64)
abbrev N__law_sea_word : List Str := ["_law_state", "_law_n", "_law_deed"]
def m__law_sea_word : T := (sq (sIf (bNot (bV (mCh (mC (.int 0)) (m2 (mV 2) (mC (.int 1)) gIx) (mV 1) gLe gLt))) (sRet (mC (.str "no island"))) sNx)
    (sq (sIf (b2 (m2 (mV 2) (mC (.int 0)) gIx) (mC (.str "home")) gEq) (sRet (mIf (b2 (m2 (mV 2) (mC (.int 1)) gIx) (m2 (mV 0) (mC (.int 5)) gIx) gIn) (mC (.str "")) (mC (.str "not away")))) sNx)
    (sq (sIf (b2 (m2 (mV 2) (mC (.int 2)) gIx) (mTup (aCons (mC (.str "forward")) (aCons (mC (.str "backward")) aNil))) gNotIn) (sRet (mC (.str "bad way"))) sNx)
    (sRet (mIf (b2 (m2 (mV 2) (mC (.int 1)) gIx) (m2 (mV 0) (mC (.int 5)) gIx) gIn) (mC (.str "away")) (mC (.str "")))))))
def fu__law_sea_word : Fu := fuOf 3 m__law_sea_word
theorem sc__law_sea_word : FnScope N__law_sea_word ["_law_state", "_law_n", "_law_deed"] (defScope s__law_sea_word) := ⟨rfl, rfl, rfl, by decide +kernel, rfl, by decide +kernel, by decide +kernel⟩
theorem ok__law_sea_word {P : Program} {w : World} {K : PySem.W.Frag} {mg : Str → Option Value} {base : Heap} {f : Addr} {fd : FuncData} (F : FunD K "_law_sea_word" "_law_sea_word" (defArgs s__law_sea_word) (defBody s__law_sea_word) (defScope s__law_sea_word) [] [] f fd) (gm : mg "_law_sea_word" = some (.ref f))  : Fc P w K mg base 1 "_law_sea_word" 3 fu__law_sea_word := by
  have sc := sc__law_sea_word
  exact fc_ok F sc gm (FunD.bindsN (ps := ["_law_state", "_law_n", "_law_deed"]) F fun _ _ _ _ _ _ us hl => match us, hl with | [_, _, _], _ => rfl) rfl (fun cdv A outer s H E hr => (s_cons (s_if (t_not (t_chain op_le lf_int op_lt lf_int (DP.u d_int) (DP.u (d_ix hr.units (u_var 2) (DP.u d_int))) (u_var 1))) (s_one (s_ret d_str)) s_nil)
      (s_cons (s_if (t_eq hr.units (DP.u (d_ix hr.units (u_var 2) (DP.u d_int))) (DP.u d_str)) (s_one (s_ret (v_if (t_in hr.units (DP.u (d_ix hr.units (u_var 2) (DP.u d_int))) (DP.u (d_ix hr.units (u_var 0) (DP.u d_int)))) d_str d_str))) s_nil)
      (s_cons (s_if (t_nin hr.units (DP.u (d_ix hr.units (u_var 2) (DP.u d_int))) (DP.u (d_tup (a_cons d_str (a_cons d_str a_nil))))) (s_one (s_ret d_str)) s_nil)
      (s_one (s_ret (v_if (t_in hr.units (DP.u (d_ix hr.units (u_var 2) (DP.u d_int))) (DP.u (d_ix hr.units (u_var 0) (DP.u d_int)))) d_str d_str)))))))
/-! fleets_N -/
abbrev s_fleets_N : Stmt := (top 49)
abbrev N_fleets_N : List Str := ["house", "island"]
def m_fleets_N : T := (sRet (mComp 1 [] (iLst (m1 (mFld "House" "fleets" (mV 0)) gSorted)) bTrue (mTup (aCons (mV 1) (aCons (mMeth "House" "lies_at" 2 fu_House_lies_at (mV 0) (aCons (mV 1) aNil)) aNil)))))
def fu_fleets_N : Fu := fuOf 2 m_fleets_N
theorem sc_fleets_N : FnScope N_fleets_N ["house"] (defScope s_fleets_N) := ⟨rfl, rfl, rfl, by decide +kernel, rfl, by decide +kernel, by decide +kernel⟩
theorem ok_fleets_N {P : Program} {w : World} {K : PySem.W.Frag} {mg : Str → Option Value} {base : Heap} {f : Addr} {fd : FuncData} (F : FunD K "fleets" "fleets" (defArgs s_fleets_N) (defBody s_fleets_N) (defScope s_fleets_N) [] [] f fd) (gm : mg "fleets" = some (.ref f)) (h_sorted : mg "sorted" = none) (fl_House_fleets : FldK K mg "House" "fleets") (c_House_lies_at : Mc P w K mg base 7 "House" "lies_at" 2 fu_House_lies_at) : FcN P w K mg base 8 "fleets" 1 fu_fleets_N := by
  have sc := sc_fleets_N
  exact fcn_ok F sc gm (FunD.bindsN (ps := ["house"]) F fun _ _ _ _ _ _ us hl => match us, hl with | [_], _ => rfl) rfl (fun cdv A outer s H E hr => (ns_ret (f_lc (x := "island") (i := 1) rfl sc.nd (i_list (DF.dp (DL.f_sorted rfl rfl h_sorted (u_fld "House" (FldK.x fl_House_fleets) (u_var 0))))) (blkOk_by (N := N_fleets_N) (sc := defScope s_fleets_N) (by decide +kernel)) (fun _ _ _ _ _ => pg_name sc.nd rfl (.inl rfl) (.inr rfl)) (fun _ _ _ _ _ => ts_nil) (fun _ _ _ _ _ => (d_tup (a_cons (d_var 1) (a_cons (d_meth c_House_lies_at hr takes0 (u_var 0) (a_cons (d_var 1) a_nil) (by omega)) a_nil)))))))
/-! House___init__ -/
abbrev s_House___init__ : Stmt := (inClass (top 47) 0)
abbrev N_House___init__ : List Str := ["self", "islands"]
def m_House___init__ : T := (sq (sDrop (mCall 1 fu_look_ring (aCons (mV 1) aNil)))
    (sq (sFldX "House" "islands" (mV 0) (xP [1] (mV 1)))
    (sq (sFldO "House" "homes" [] (mV 0) (mC (.dK [])))
    (sq (sFldO "House" "friends" [] (mV 0) (mC (.dK [])))
    (sq (sFldO "House" "goods" [] (mV 0) (mC (.dK [])))
    (sq (sFldO "House" "record" [] (mV 0) (mLst aNil))
    (sq (sFldO "House" "pledges" [] (mV 0) (mLst aNil))
    (sq (sFldO "House" "fleets" [] (mV 0) (mC (.dK [])))
    (sq (sFldX "House" "now" (mV 0) (xP [] (mC (.int 0))))
    (sq (sFldO "House" "done" [] (mV 0) (mLst aNil))
    (sq (sFldO "House" "past" [] (mV 0) (mLst aNil))
    (sFldO "House" "later" [] (mV 0) (mLst aNil)))))))))))))
def fu_House___init__ : Fu := fuOf 2 m_House___init__
theorem sc_House___init__ : FnScope N_House___init__ ["self", "islands"] (defScope s_House___init__) := ⟨rfl, rfl, rfl, by decide +kernel, rfl, by decide +kernel, by decide +kernel⟩
theorem ok_House___init__ {P : Program} {w : World} {K : PySem.W.Frag} {mg : Str → Option Value} {base : Heap} {f : Addr} {fd : FuncData} {C : Addr} (F : FunD K "__init__" "House.__init__" (defArgs s_House___init__) (defBody s_House___init__) (defScope s_House___init__) [] [] f fd) (gm : mg "House" = some (.ref C)) (hmk : Mk K C f) (fl_House_done : FldK K mg "House" "done") (fl_House_fleets : FldK K mg "House" "fleets") (fl_House_friends : FldK K mg "House" "friends") (fl_House_goods : FldK K mg "House" "goods") (fl_House_homes : FldK K mg "House" "homes") (fl_House_islands : FldK K mg "House" "islands") (fl_House_later : FldK K mg "House" "later") (fl_House_now : FldK K mg "House" "now") (fl_House_past : FldK K mg "House" "past") (fl_House_pledges : FldK K mg "House" "pledges") (fl_House_record : FldK K mg "House" "record") (c_look_ring : Fc P w K mg base 4 "look_ring" 1 fu_look_ring) : Kc P w K mg base 5 "House" 2 fu_House___init__ := by
  have sc := sc_House___init__
  exact kc_ok F sc gm hmk (FunD.bindsN (ps := ["self", "islands"]) F fun _ _ _ _ _ _ us hl => match us, hl with | [_, _], _ => rfl) rfl (fun cdv A outer s H E hr => (s_cons (s_expr (d_callF c_look_ring hr tkB (a_cons (d_var 1) a_nil)))
      (s_cons (s_fldX (FldK.x fl_House_islands) (u_var 0) (x_pure (d_var 1)))
      (s_cons (s_fldO (FldK.x fl_House_homes) (u_var 0) f_dK)
      (s_cons (s_fldO (FldK.x fl_House_friends) (u_var 0) f_dK)
      (s_cons (s_fldO (FldK.x fl_House_goods) (u_var 0) f_dK)
      (s_cons (s_fldO (FldK.x fl_House_record) (u_var 0) (f_lst a_nil))
      (s_cons (s_fldO (FldK.x fl_House_pledges) (u_var 0) (f_lst a_nil))
      (s_cons (s_fldO (FldK.x fl_House_fleets) (u_var 0) f_dK)
      (s_cons (s_fldX (FldK.x fl_House_now) (u_var 0) (x_pure d_int))
      (s_cons (s_fldO (FldK.x fl_House_done) (u_var 0) (f_lst a_nil))
      (s_cons (s_fldO (FldK.x fl_House_past) (u_var 0) (f_lst a_nil))
      (s_one (s_fldO (FldK.x fl_House_later) (u_var 0) (f_lst a_nil)))))))))))))))
/-! law -/
abbrev s_law : Stmt := (top 65)
abbrev N_law : List Str := ["_law_script", "_law_n", "_law_house", "_law_state", "_law_cell_here", "_law_drawn", "_law_island", "_law_deed", "_law_word", "_law_due", "_law_turn", "_law_told", "_law_away", "_law_one"]
def m_law : T := (sq (sSet 1 (([0] ++ ([] ++ [])) ++ []) (mCall 1 fu__law_islands (aCons (mCall 2 fu__law_cell (aCons (mV 0) (aCons (mC (.int 0)) aNil))) aNil)))
    (sq (sSetX 2 (xMake "House" 2 fu_House___init__ (xaP ([1] ++ []) (aCons (mV 1) aNil))))
    (sq (sSet 3 [] (mCall 0 fu__law_start aNil))
    (sq (sIf (b2 (mCall 1 fu_fleets (aCons (mV 2) aNil)) (mLst aNil) gNe) (sRet (mC (.bl false))) sNx)
    (sq (sFor [] (iLst (mSl (mV 0) (oSome (mC (.int 1))) oNone)) (gN 4) (sq (sSet 5 ([4] ++ (([] ++ ([] ++ ([] ++ []))) ++ [])) (mCall 2 fu__law_draws (aCons (mV 4) (aCons (mLst (aCons (mC (.int 23)) (aCons (mC (.int 2)) (aCons (mC (.int 11)) aNil)))) aNil))))
    (sq (sSet 6 ((([] ++ []) ++ ([] ++ [])) ++ []) (m2 (m2 (m2 (mV 5) (mC (.int 0)) gIx) (m2 (mV 1) (mC (.int 2)) gAdd) gMod) (mC (.int 1)) gSub))
    (sq (sIf (b2 (m2 (mV 5) (mC (.int 2)) gIx) (mC (.int 0)) gEq) (sSet 6 ((([] ++ []) ++ ([] ++ (([] ++ ([] ++ [])) ++ []))) ++ (([] ++ []) ++ [])) (m2 (mLst (aCons (m2 (mC (.int 10)) (mC (.int 50)) gPow) (aCons (m1 (mC (.int 10)) gNeg) (aCons (m2 (mV 1) (m2 (mV 5) (mC (.int 0)) gIx) gAdd) aNil)))) (m2 (m2 (mV 5) (mC (.int 0)) gIx) (mC (.int 3)) gMod) gIx)) sNx)
    (sq (sSet 7 ([] ++ ([6] ++ [])) (mTup (aCons (mC (.str "home")) (aCons (mV 6) aNil))))
    (sq (sIf (bOr (b2 (m2 (mV 5) (mC (.int 1)) gIx) (mC (.int 0)) gEq) (b2 (m2 (mV 5) (mC (.int 2)) gIx) (mC (.int 7)) gGt)) (sSet 7 ([] ++ ([6] ++ ((([] ++ ([] ++ ([] ++ ([] ++ ([] ++ ([] ++ [])))))) ++ (([] ++ []) ++ [])) ++ []))) (mTup (aCons (mC (.str "sail")) (aCons (mV 6) (aCons (m2 (mLst (aCons (mC (.str "forward")) (aCons (mC (.str "backward")) (aCons (mC (.str "")) (aCons (mC (.str "Forward")) (aCons (mC (.str "forward")) (aCons (mC (.str "backward")) aNil))))))) (m2 (m2 (mV 5) (mC (.int 2)) gIx) (mC (.int 6)) gMod) gIx) aNil))))) sNx)
    (sq (sSet 8 ([3] ++ ([1] ++ ([7] ++ []))) (mCall 3 fu__law_sea_word (aCons (mV 3) (aCons (mV 1) (aCons (mV 7) aNil)))))
    (sq (sSet 9 ([] ++ ([] ++ [])) (mTup (aCons (mC (.str "told")) (aCons (mC .non) aNil))))
    (sq (sIf (b2 (mV 8) (mC (.str "")) gNe) (sSet 9 ([] ++ ([8] ++ ((13 :: (([] ++ ([] ++ ([] ++ ([] ++ [])))) ++ ([] ++ []))) ++ []))) (mTup (aCons (mC (.str "refused")) (aCons (mV 8) (aCons (mComp 13 ([] ++ ([] ++ ([] ++ ([] ++ [])))) (iLst (mLst (aCons (mC (.str "no island")) (aCons (mC (.str "bad way")) (aCons (mC (.str "away")) (aCons (mC (.str "not away")) aNil)))))) bTrue (m2 (mV 13) (mV 8) gEq)) aNil))))) (sSet 3 ([3] ++ ([1] ++ ([7] ++ []))) (mCall 3 fu__law_next (aCons (mV 3) (aCons (mV 1) (aCons (mV 7) aNil))))))
    (sq (sIfX (xbNot (xCall 2 (fuR__law_same 4) (xaCons (xCall 2 fu__law_asked (xaP ([2] ++ ([7] ++ [])) (aCons (mV 2) (aCons (mV 7) aNil)))) (xaP ([9] ++ []) (aCons (mV 9) aNil))))) (sRet (mC (.bl false))) sNx)
    (sFor [] (iRng (mC (.int 2))) (gN 10) (sq (sSetO 11 ([2] ++ []) (mCallN 1 fu_fleets_N (aCons (mV 2) aNil)))
    (sq (sSetO 12 (13 :: (([] ++ []) ++ ([13] ++ (([3] ++ ([1] ++ ([13] ++ []))) ++ [])))) (mComp 13 ([] ++ []) (iLst (m1 (m2 (mV 3) (mC (.int 5)) gIx) gSorted)) bTrue (mTup (aCons (mV 13) (aCons (mCall 3 fu__law_lies (aCons (mV 3) (aCons (mV 1) (aCons (mV 13) aNil)))) aNil)))))
    (sq (sIf (bNot (bV (mCall 2 (fuR__law_same 4) (aCons (mV 11) (aCons (mV 12) aNil))))) (sRet (mC (.bl false))) sNx)
    (sApp 11 ([] ++ ([] ++ [])) (mTup (aCons (mC (.int 0)) (aCons (mC (.int 0)) aNil))))))))))))))))))
    (sRet (mC (.bl true))))))))
theorem sc_law : FnScope N_law ["_law_script"] (defScope s_law) := ⟨rfl, rfl, rfl, by decide +kernel, rfl, by decide +kernel, by decide +kernel⟩
theorem ok_law {P : Program} {w : World} {K : PySem.W.Frag} {mg : Str → Option Value} {base : Heap} {f : Addr} {fd : FuncData} (F : FunD K "law" "law" (defArgs s_law) (defBody s_law) (defScope s_law) [] [] f fd) (h_range : mg "range" = none) (h_sorted : mg "sorted" = none) (k_House : Kc P w K mg base 5 "House" 2 fu_House___init__) (c__law_asked : Fc P w K mg base 7 "_law_asked" 2 fu__law_asked) (c__law_cell : Fc P w K mg base 1 "_law_cell" 2 fu__law_cell) (c__law_draws : Fc P w K mg base 1 "_law_draws" 2 fu__law_draws) (c__law_islands : Fc P w K mg base 2 "_law_islands" 1 fu__law_islands) (c__law_lies : Fc P w K mg base 1 "_law_lies" 3 fu__law_lies) (c__law_next : Fc P w K mg base 1 "_law_next" 3 fu__law_next) (c__law_same : Fc P w K mg base 5 "_law_same" 2 (fuR__law_same 4)) (c__law_sea_word : Fc P w K mg base 1 "_law_sea_word" 3 fu__law_sea_word) (c__law_start : Fc P w K mg base 1 "_law_start" 0 fu__law_start) (c_fleets : Fc P w K mg base 8 "fleets" 1 fu_fleets) (c_fleets_N : FcN P w K mg base 8 "fleets" 1 fu_fleets_N) (hg : ∀ ns : List Int, ns.length ≤ 63 → ∃ ω, toRR (m_law 0 (.own (.lst (ns.map .int)) :: List.replicate 13 .no) []) = .ok (.bl true) ω) : FnOk P w K mg base (L2.CX P w) 9 f fd ["_law_script"] (spLaw K) := by
  have sc := sc_law
  exact law_ok F sc (by first | exact .inl rfl | exact .inr rfl) (by first | exact Or.inl rfl | exact Or.inr (Or.inl rfl)) (fun cdv A outer s H E hr => ⟨rfl, (s_cons (s_set sc.nd rfl (by first | exact .inl rfl | exact .inr rfl) (d_callF c__law_islands hr tkB (a_cons (d_callF c__law_cell hr tkB (a_cons (d_var 0) (a_cons d_int a_nil))) a_nil)))
      (s_cons (sx_set sc.nd rfl (by first | exact .inl rfl | exact .inr rfl) (x_make k_House hr tkB (xa_pure (a_cons (d_var 1) a_nil)) rfl (by omega)))
      (s_cons (s_set sc.nd rfl (by first | exact .inl rfl | exact .inr rfl) (d_callF0 c__law_start hr tkB))
      (s_cons (s_if (t_ne hr.units (DP.u (d_callF c_fleets hr tkB (a_cons (d_var 2) a_nil))) (DP.u (DF.dp (f_lst a_nil)))) (s_one (s_ret d_bl)) s_nil)
      (s_cons (s_for hpB rfl (i_list (d_slice (u_var 0) (o_some (DP.u d_int)) o_none)) (g_name sc.nd rfl (by first | exact .inl rfl | exact .inr rfl)) (s_cons (s_set sc.nd rfl (by first | exact .inl rfl | exact .inr rfl) (d_callF c__law_draws hr tkB (a_cons (d_var 4) (a_cons (DF.dp (f_lst (a_cons d_int (a_cons d_int (a_cons d_int a_nil))))) a_nil))))
      (s_cons (s_set sc.nd rfl (by first | exact .inl rfl | exact .inr rfl) (d_sub (DP.u (d_mod (DP.u (d_ix hr.units (u_var 5) (DP.u d_int))) (DP.u (d_add (u_var 1) (DP.u d_int))))) (DP.u d_int)))
      (s_cons (s_if (t_eq hr.units (DP.u (d_ix hr.units (u_var 5) (DP.u d_int))) (DP.u d_int)) (s_one (s_set sc.nd rfl (by first | exact .inl rfl | exact .inr rfl) (d_ix hr.units (DP.u (DF.dp (f_lst (a_cons (d_pow (DP.u d_int) (DP.u d_int)) (a_cons (d_neg (DP.u d_int)) (a_cons (d_add (u_var 1) (DP.u (d_ix hr.units (u_var 5) (DP.u d_int)))) a_nil)))))) (DP.u (d_mod (DP.u (d_ix hr.units (u_var 5) (DP.u d_int))) (DP.u d_int)))))) s_nil)
      (s_cons (s_set sc.nd rfl (by first | exact .inl rfl | exact .inr rfl) (d_tup (a_cons d_str (a_cons (d_var 6) a_nil))))
      (s_cons (s_if (DW.db (w_or (t_eq hr.units (DP.u (d_ix hr.units (u_var 5) (DP.u d_int))) (DP.u d_int)) (w_or1 (t_gt (DP.u (d_ix hr.units (u_var 5) (DP.u d_int))) (DP.u d_int))))) (s_one (s_set sc.nd rfl (by first | exact .inl rfl | exact .inr rfl) (d_tup (a_cons d_str (a_cons (d_var 6) (a_cons (d_ix hr.units (DP.u (DF.dp (f_lst (a_cons d_str (a_cons d_str (a_cons d_str (a_cons d_str (a_cons d_str (a_cons d_str a_nil))))))))) (DP.u (d_mod (DP.u (d_ix hr.units (u_var 5) (DP.u d_int))) (DP.u d_int)))) a_nil)))))) s_nil)
      (s_cons (s_set sc.nd rfl (by first | exact .inl rfl | exact .inr rfl) (d_callF c__law_sea_word hr tkB (a_cons (d_var 3) (a_cons (d_var 1) (a_cons (d_var 7) a_nil)))))
      (s_cons (s_set sc.nd rfl (by first | exact .inl rfl | exact .inr rfl) (d_tup (a_cons d_str (a_cons d_non a_nil))))
      (s_cons (s_if (t_ne hr.units (u_var 8) (DP.u d_str)) (s_one (s_set sc.nd rfl (by first | exact .inl rfl | exact .inr rfl) (d_tup (a_cons d_str (a_cons (d_var 8) (a_cons (DF.dp (f_lc (x := "_law_one") (i := 13) rfl sc.nd (i_list (DF.dp (f_lst (a_cons d_str (a_cons d_str (a_cons d_str (a_cons d_str a_nil))))))) (blkOk_by (N := N_law) (sc := defScope s_law) (by decide +kernel)) (fun _ _ _ _ _ => pg_name sc.nd rfl (.inl rfl) (.inr rfl)) (fun _ _ _ _ _ => ts_nil) (fun _ _ _ _ _ => (d_eq hr.units (u_var 13) (u_var 8))))) a_nil)))))) (s_one (s_set sc.nd rfl (by first | exact .inl rfl | exact .inr rfl) (d_callF c__law_next hr tkB (a_cons (d_var 3) (a_cons (d_var 1) (a_cons (d_var 7) a_nil)))))))
      (s_cons (sx_if (xb_not (xb_val (x_callF c__law_same hr tkB (xa_cons (x_callF c__law_asked hr tkB (xa_pure (a_cons (d_var 2) (a_cons (d_var 7) a_nil))) rfl (by omega)) (xa_pure (a_cons (d_var 9) a_nil))) rfl (by omega)))) (s_one (s_ret d_bl)) s_nil)
      (s_one (s_for hpB rfl (i_range rfl h_range (DP.u d_int)) (g_name sc.nd rfl (by first | exact .inl rfl | exact .inr rfl)) (s_cons (s_setO sc.nd rfl (by first | exact .inl rfl | exact .inr rfl) (f_callN c_fleets_N hr tkB (a_cons (d_var 2) a_nil)))
      (s_cons (s_setLc (i := 12) (x := "_law_one") (j := 13) rfl sc.nd rfl rfl (sw_true rfl rfl rfl rfl) (i_list (DF.dp (DL.f_sorted rfl rfl h_sorted (DP.u (d_ix hr.units (u_var 3) (DP.u d_int)))))) (blkOk_by (N := N_law) (sc := defScope s_law) (by decide +kernel)) (fun _ _ _ _ _ => pg_name sc.nd rfl (.inl rfl) (.inr rfl)) (fun _ _ _ _ _ => ts_nil) (fun _ _ _ _ _ => (d_tup (a_cons (d_var 13) (a_cons (d_callF c__law_lies hr takes0 (a_cons (d_var 3) (a_cons (d_var 1) (a_cons (d_var 13) a_nil)))) a_nil)))))
      (s_cons (s_if (t_not (t_val (d_callF c__law_same hr tkB (a_cons (d_var 11) (a_cons (d_var 12) a_nil))))) (s_one (s_ret d_bl)) s_nil)
      (s_one (s_app 11 (d_tup (a_cons d_int (a_cons d_int a_nil))))))))))))))))))))
      (s_one (s_ret d_bl)))))))⟩) hg

def pd : Nat → D → Bool
  | 0, _ => false
  | _ + 1, .non => true
  | _ + 1, .bl _ => true
  | _ + 1, .int _ => true
  | _ + 1, .str _ => true
  | k + 1, .lst xs => decide (xs.length ≤ 1000) && xs.all (pd k)
  | k + 1, .tup xs => decide (xs.length ≤ 1000) && xs.all (pd k)
  | _ + 1, _ => false
theorem same_refl : ∀ (k : Nat) (x : D) (n0 : Nat) (ω : Store), pd k x = true → fuR__law_same k n0 [x, x] ω = .ok (.bl true) ω := by
  intro k
  induction k with
  | zero => intro x n0 ω h; cases h
  | succ k ih =>
    intro x n0 ω h
    have inner : ∀ (xs : List D) (mk : D), (∀ j : Nat, j < xs.length → ∃ d, gIx mk (.int (j : Int)) = .ok d ∧ pd k d = true) →
        compL 2 bTrue (mCall 2 (fuR__law_same k) (aCons (m2 (mV 0) (mV 2) gIx) (aCons (m2 (mV 1) (mV 2) gIx) aNil))) ω [.val mk, .val mk, .no] (rangeD 0 xs.length) = .ok ((rangeD 0 xs.length).map fun _ => .bl true) := by
      intro xs mk hx
      refine compL_all fun y hy => ?_
      obtain ⟨j, hj, rfl⟩ := rangeD_mem hy
      obtain ⟨d, e1, e2⟩ := hx j hj
      simp [e1, ih d _ ω e2]
    have bls : ∀ (l : List D), D.bls? (l.map fun _ => .bl true) = some (l.map fun _ => true) := by
      intro l
      induction l with
      | nil => rfl
      | cons a l ih => show (D.bls? (l.map fun _ => .bl true)).map (true :: ·) = _; rw [ih]; rfl
    cases x with
    | non => simp [fuR__law_same, m__law_same]
    | bl b => simp [fuR__law_same, m__law_same, isiB]
    | int b => simp [fuR__law_same, m__law_same, isiB]
    | str b => simp [fuR__law_same, m__law_same, isiB]
    | lst xs =>
      have h : (decide (xs.length ≤ 1000) && xs.all (pd k)) = true := h
      rw [Bool.and_eq_true, List.all_eq_true, decide_eq_true_eq] at h
      have key := inner xs (.lst xs) fun j hj => ⟨xs[j], gIx_lst (by omega) (by
        rw [show (j : Int).toNat = j from rfl]
        exact List.getElem?_eq_getElem hj), h.2 _ (List.getElem_mem hj)⟩
      have hb := asRng1_len (n := xs.length) (by omega)
      simp [fuR__law_same, m__law_same, isiB, hb, h.1, demote, dmS]
      rw [key]
      simp [bls]
    | tup xs =>
      have h : (decide (xs.length ≤ 1000) && xs.all (pd k)) = true := h
      rw [Bool.and_eq_true, List.all_eq_true, decide_eq_true_eq] at h
      have key := inner xs (.tup xs) fun j hj => ⟨xs[j], gIx_tup (by omega) (by
        rw [show (j : Int).toNat = j from rfl]
        exact List.getElem?_eq_getElem hj), h.2 _ (List.getElem_mem hj)⟩
      have hb := asRng1_len (n := xs.length) (by omega)
      simp [fuR__law_same, m__law_same, isiB, hb, h.1, demote, dmS]
      rw [key]
      simp [bls]
    | _ => cases h

theorem map_get {ns : List Int} {k : Nat} (h : k < ns.length) : (ns.map D.int)[k]? = some (.int (ns.getD k 0)) := by
  rw [List.getElem?_map, List.getElem?_eq_getElem h]
  simp [List.getD, List.getElem?_eq_getElem h]
def drawsL : Int → List Int → List Int
  | _, [] => []
  | c, p :: ps => c % p :: drawsL (c / p) ps
theorem draws_for (ω : Store) (n0 : Nat) (a b x y : Sl) : ∀ (ps : List Int) (c : Int) (acc : List Int) (z : Sl) (parts : D), (∀ p ∈ ps, 0 < p ∧ p < 1073741824) → acc.length + ps.length ≤ 1000 →
    ∃ c' z', mFor (gN 6) (sq (sApp 5 ([] ++ []) (m2 (mV 0) (mV 6) gMod)) (sSet 0 ([] ++ []) (m2 (mV 0) (mV 6) gDiv))) (ps.map D.int) n0 [.val (.int c), .val parts, a, b, x, .own (.lst (acc.map D.int)), z] ω
      = .nx [.val (.int c'), .val parts, a, b, x, .own (.lst ((acc ++ drawsL c ps).map D.int)), z'] ω := by
  intro ps
  induction ps with
  | nil => intro c acc z parts h hl; exact ⟨c, z, by simp [drawsL]⟩
  | cons p ps ih =>
    intro c acc z parts h hl
    have hp := h p List.mem_cons_self
    rw [List.length_cons] at hl
    have h1 : ¬ (1000000 ≤ acc.length) := by omega
    have h2 : acc.length < 1000000 := by omega
    obtain ⟨c', z', e⟩ := ih (c / p) (acc ++ [c % p]) (.val (.int p)) parts (fun q hq => h q (List.mem_cons_of_mem _ hq)) (by rw [List.length_append, List.length_singleton]; omega)
    refine ⟨c', z', ?_⟩
    rw [List.map_append] at e
    rw [show drawsL c (p :: ps) = c % p :: drawsL (c / p) ps from rfl, List.append_cons, ← e]
    simp [hp.1, gDiv_ok _ _ hp, h2]
theorem draws_eq (n0 : Nat) (c : Int) (ps : List Int) (ω : Store) (h : ∀ p ∈ ps, 0 < p ∧ p < 1073741824) (hl : ps.length ≤ 1000) : ∃ c', fu__law_draws n0 [.int c, .lst (ps.map .int)] ω = .ok (.lst ((drawsL c' ps).map .int)) ω := by
  have start : ∀ (c0 : Int) (a b x : Sl), toRR (sq (sSetO 5 [] (mLst aNil)) (sq (sFor [1] (iLst (mV 1)) (gN 6) (sq (sApp 5 ([] ++ []) (m2 (mV 0) (mV 6) gMod)) (sSet 0 ([] ++ []) (m2 (mV 0) (mV 6) gDiv)))) (sRet (mV 5))) n0 [.val (.int c0), .val (.lst (ps.map .int)), a, b, x, .no, .no] ω) = .ok (.lst ((drawsL c0 ps).map .int)) ω := by
    intro c0 a b x
    obtain ⟨c', z', e⟩ := draws_for ω n0 a b x x ps c0 [] .no (.lst (ps.map .int)) h (by simpa using hl)
    rw [List.map_nil, List.nil_append] at e
    simp only [sq, sSetO, mLst, aNil, ofE, Res.bind_ok, sFor, iLst, mV, demO, D.inFree, D.frees]
    simp [demote, dmS, e]
  have hsz : ∀ a b : Int, 0 < b → 0 ≤ a % b ∧ a % b < b := fun a b hb => ⟨Int.emod_nonneg _ (by omega), Int.emod_lt_of_pos _ hb⟩
  show ∃ c', toRR (m__law_draws n0 (envS 7 [.int c, .lst (ps.map .int)]) ω) = _
  by_cases hc : (if c < 0 then -c else c) < 1000000000000000000
  · have b1 := hsz (c * 48271 + 11) 2147483647 (by decide)
    generalize e1 : (c * 48271 + 11) % 2147483647 = x1 at b1
    have g1 : -18446744073709551616 < x1 ∧ x1 < 18446744073709551616 := by omega
    have b2 := hsz (x1 * x1 + 40692 * x1 + c) 2147483399 (by decide)
    generalize e2 : (x1 * x1 + 40692 * x1 + c) % 2147483399 = x2 at b2
    have b3 := hsz (x2 * 16807 + x1) 1000000007 (by decide)
    generalize e3 : (x2 * 16807 + x1) % 1000000007 = x3 at b3
    refine ⟨x2 + 2147483399 * (x3 + 1000000007 * x1), ?_⟩
    rw [← start _ (.val (.int x1)) (.val (.int x2)) (.val (.int x3))]
    unfold m__law_draws
    congr 1
    refine sq_nx ?_
    simp [envS, hc, e1, gMul_r x1 x1 g1, e2, e3]
  · refine ⟨(if c < 0 then -c else c) - 1000000000000000000, ?_⟩
    rw [← start _ .no .no .no]
    unfold m__law_draws
    congr 1
    refine sq_nx ?_
    simp [envS, hc]
theorem drawsL_at : ∀ {ps : List Int} {c : Int} {i : Nat} {p : Int}, ps[i]? = some p → 0 < p → ∃ x, (drawsL c ps)[i]? = some x ∧ 0 ≤ x ∧ x < p
  | [], c, i, p, h, _ => by simp at h
  | q :: ps, c, 0, p, h, hp => by
    have e : q = p := by simpa using h
    subst e
    exact ⟨c % q, rfl, Int.emod_nonneg _ (by omega), Int.emod_lt_of_pos _ hp⟩
  | q :: ps, c, i + 1, p, h, hp => by
    have h : ps[i]? = some p := by simpa using h
    obtain ⟨x, h1, h2⟩ := drawsL_at (c := c / q) h hp
    exact ⟨x, by simpa [drawsL] using h1, h2⟩
theorem drawsL_len : ∀ {ps : List Int} {c : Int}, (drawsL c ps).length = ps.length
  | [], _ => rfl
  | p :: ps, c => by show (drawsL (c / p) ps).length + 1 = ps.length + 1; rw [drawsL_len]
theorem ix_ints {xs : List Int} {k : Int} {x : Int} (h0 : 0 ≤ k) (h : xs[k.toNat]? = some x) : gIx (.lst (xs.map .int)) (.int k) = .ok (.int x) := gIx_lst h0 (by rw [List.getElem?_map, h]; rfl)

theorem dem_nil (ρ : Env') : demote [] ρ = ρ := by
  unfold demote
  apply List.ext_getElem?
  intro i
  rw [List.getElem?_mapIdx]
  cases ρ[i]? with
  | none => rfl
  | some s => simp [dmS]
/-! ### loops, by what they keep -/
theorem for_nx {i n0 : Nat} {b : T} {x : D} {xs : List D} {ρ ρ' : Env'} {ω ω' : Store} (hi : i < ρ.length) (h : b n0 (ρ.set i (.val x)) ω = .nx ρ' ω' ∨ b n0 (ρ.set i (.val x)) ω = .ct ρ' ω') : mFor (gN i) b (x :: xs) n0 ρ ω = mFor (gN i) b xs n0 ρ' ω' := by
  conv => lhs; unfold mFor
  have e : gN i x ρ = some (ρ.set i (.val x)) := if_pos hi
  rw [e]
  dsimp only
  rcases h with h | h <;> rw [h]
theorem for_all {i n0 : Nat} {b : T} (P : Nat → Env' → Store → Prop) : ∀ (xs : List D),
    (∀ (j : Nat) (x : D) (ρ : Env') (ω : Store), xs[j]? = some x → P j ρ ω → i < ρ.length ∧ ∃ ρ' ω', (b n0 (ρ.set i (.val x)) ω = .nx ρ' ω' ∨ b n0 (ρ.set i (.val x)) ω = .ct ρ' ω') ∧ P (j + 1) ρ' ω') →
    ∀ {ρ : Env'} {ω : Store}, P 0 ρ ω → ∃ ρ' ω', mFor (gN i) b xs n0 ρ ω = .nx ρ' ω' ∧ P xs.length ρ' ω' := by
  intro xs
  induction xs generalizing P with
  | nil => intro _ ρ ω h; exact ⟨ρ, ω, rfl, h⟩
  | cons x xs ih =>
    intro st ρ ω h
    obtain ⟨hi, ρ1, ω1, h1, h2⟩ := st 0 x ρ ω rfl h
    obtain ⟨ρ2, ω2, h3, h4⟩ := ih (fun j => P (j + 1)) (fun j y ρ ω hy hp => st (j + 1) y ρ ω (by rw [List.getElem?_cons_succ]; exact hy) hp) h2
    exact ⟨ρ2, ω2, by rw [for_nx hi h1, h3], h4⟩
theorem sfor_all {i n0 : Nat} {b : T} {B : List Nat} {ms : MA} {xs : List D} {ρ : Env'} {ω : Store} (P : Nat → Env' → Store → Prop) (hm : ms ρ ω = .ok xs) (h0 : P 0 (demote B ρ) ω)
    (st : ∀ (j : Nat) (x : D) (ρ : Env') (ω : Store), xs[j]? = some x → P j ρ ω → i < ρ.length ∧ ∃ ρ' ω', (b n0 (ρ.set i (.val x)) ω = .nx ρ' ω' ∨ b n0 (ρ.set i (.val x)) ω = .ct ρ' ω') ∧ P (j + 1) ρ' ω') :
    ∃ ρ' ω', sFor B ms (gN i) b n0 ρ ω = .nx ρ' ω' ∧ P xs.length ρ' ω' := by
  unfold sFor
  rw [hm]
  exact for_all P xs st h0
theorem sq_step {G : RS → Prop} {a b : T} {n0 : Nat} {ρ ρ' : Env'} {ω ω' : Store} (h : a n0 ρ ω = .nx ρ' ω') (g : G (b n0 ρ' ω')) : G (sq a b n0 ρ ω) := by rw [sq_nx h]; exact g
theorem sq_sfor {G : RS → Prop} {i n0 : Nat} {b r : T} {B : List Nat} {ms : MA} {xs : List D} {ρ : Env'} {ω : Store} (P : Nat → Env' → Store → Prop) (hm : ms ρ ω = .ok xs) (h0 : P 0 (demote B ρ) ω)
    (st : ∀ (j : Nat) (x : D) (ρ : Env') (ω : Store), xs[j]? = some x → P j ρ ω → i < ρ.length ∧ ∃ ρ' ω', (b n0 (ρ.set i (.val x)) ω = .nx ρ' ω' ∨ b n0 (ρ.set i (.val x)) ω = .ct ρ' ω') ∧ P (j + 1) ρ' ω')
    (hr : ∀ ρ' ω', P xs.length ρ' ω' → G (r n0 ρ' ω')) : G (sq (sFor B ms (gN i) b) r n0 ρ ω) := by
  obtain ⟨ρ', ω', e, h⟩ := sfor_all P hm h0 st
  rw [sq_nx e]
  exact hr ρ' ω' h
abbrev GT (r : RS) : Prop := ∃ ω, toRR r = .ok (.bl true) ω
theorem nsD_at {ns : List Int} {j : Nat} {x : D} (h : (ns.map D.int)[j]? = some x) : ∃ v, x = .int v := by
  rw [List.getElem?_map] at h
  cases e : ns[j]? with
  | none => rw [e] at h; cases h
  | some v => rw [e] at h; exact ⟨v, (Option.some.inj h).symm⟩
theorem cut_take {α : Type} (l : List α) (p : Nat) : cutD l none (some (p : Int)) = l.take p := by
  unfold DL.cutD
  rw [HT.sIx_none, HT.sIx_nat, List.drop_zero, Nat.sub_zero]
  rcases Nat.le_total p l.length with h | h
  · rw [Nat.min_eq_left h]
  · rw [Nat.min_eq_right h, List.take_of_length_le (Nat.le_refl _), List.take_of_length_le h]

theorem cut_drop {α : Type} (l : List α) (p : Nat) : cutD l (some (p : Int)) none = l.drop p := by
  unfold DL.cutD
  rw [HT.sIx_none, HT.sIx_nat]
  rcases Nat.le_total p l.length with h | h
  · rw [Nat.min_eq_left h]
    exact List.take_of_length_le (by rw [List.length_drop]; omega)
  · rw [Nat.min_eq_right h, List.drop_of_length_le h, List.drop_of_length_le (Nat.le_refl _), List.take_nil]
theorem sl_ints_from {ns : List Int} {p : Nat} : gSl (.lst (ns.map .int)) (some (p : Int)) none = .ok (.lst ((ns.drop p).map .int)) := by
  show Res.ok (D.lst (cutD (ns.map .int) (some (p : Int)) none)) = _
  rw [cutD_map, cut_drop]
theorem cell_eq (ns : List Int) (i : Nat) (hl : ns.length ≤ 1000) (n0 : Nat) (ω : Store) : ∃ c, fu__law_cell n0 [.lst (ns.map .int), .int (i : Int)] ω = .ok (.int c) ω := by
  by_cases h : i < ns.length
  · refine ⟨ns.getD i 0, ?_⟩
    have e := map_get h
    have g : gIx (.lst (ns.map .int)) (.int (i : Int)) = .ok (.int (ns.getD i 0)) := gIx_lst (by omega) (by rw [Int.toNat_natCast]; exact e)
    have hn : gLen (.lst (ns.map .int)) = .ok (.int (ns.length : Int)) := by show Res.ok (D.int ((ns.map D.int).length : Int)) = _; rw [List.length_map]
    generalize ns.map D.int = L at *
    simp only [fu__law_cell, m__law_cell, fuOf, envS]
    simp [-gLen, g, hn, h]
  · refine ⟨0, ?_⟩
    have hn : gLen (.lst (ns.map .int)) = .ok (.int (ns.length : Int)) := by show Res.ok (D.int ((ns.map D.int).length : Int)) = _; rw [List.length_map]
    generalize ns.map D.int = L at *
    simp only [fu__law_cell, m__law_cell, fuOf, envS]
    simp [-gLen, hn, h]
theorem pd_lst {k : Nat} {xs : List D} (hl : xs.length ≤ 1000) (h : ∀ x ∈ xs, pd k x = true) : pd (k + 1) (.lst xs) = true := by
  show (decide (xs.length ≤ 1000) && xs.all (pd k)) = true
  rw [Bool.and_eq_true, List.all_eq_true, decide_eq_true_eq]
  exact ⟨hl, h⟩

abbrev BR : Er := ⟨"BadRing", "bad ring"⟩
def rgB (n : Int) : Bool := decide (3 ≤ n) && decide (n ≤ 20)
theorem rg_cases (n : Int) : (rgB n = true ∧ ¬ n < 3 ∧ ¬ 20 < n) ∨ (rgB n = false ∧ (n < 3 ∨ (¬ n < 3 ∧ 20 < n))) := by
  unfold rgB
  by_cases h1 : 3 ≤ n
  · by_cases h2 : n ≤ 20
    · exact .inl ⟨by simp [h1, h2], by omega, by omega⟩
    · exact .inr ⟨by simp [h2], by omega⟩
  · exact .inr ⟨by simp [h1], by omega⟩
theorem look_ring_eq (n : Int) (n0 : Nat) (ω : Store) : fu_look_ring n0 [.int n] ω = if rgB n = true then .ok .non ω else .er BR ω := by
  rcases rg_cases n with ⟨e, h1, h2⟩ | ⟨e, h1 | ⟨h1, h2⟩⟩
  · rw [e, if_pos rfl]; simp [fu_look_ring, m_look_ring, h1, h2]
  · rw [e, if_neg Bool.false_ne_true]; simp [fu_look_ring, m_look_ring, h1]
  · rw [e, if_neg Bool.false_ne_true]; simp [fu_look_ring, m_look_ring, h1, h2]
/-! the objects -/
def hob (n : Int) : Ob := ⟨"House", [("islands", .val (.int n)), ("homes", .own (.dK [])), ("friends", .own (.dK [])), ("goods", .own (.dK [])), ("record", .own (.lst [])), ("pledges", .own (.lst [])), ("fleets", .own (.dK [])), ("now", .val (.int 0)), ("done", .own (.lst [])), ("past", .own (.lst [])), ("later", .own (.lst []))]⟩
theorem objAt_end {cl : Str} {n0 : Nat} {ω : Store} {fs : List (Str × Sl)} (hn : n0 ≤ ω.length) (hl : fs.length < 1000) : objAt cl n0 (ω ++ [⟨cl, fs⟩]) (.obj ω.length) = some (ω.length, ⟨cl, fs⟩) := by
  unfold objAt
  dsimp only
  rw [List.getElem?_concat_length]
  exact if_pos ⟨rfl, hn, hl⟩
theorem stF_end {cl f : Str} {ω : Store} {fs : List (Str × Sl)} {s : Sl} : stF cl f (ω ++ [⟨cl, fs⟩]) ω.length ⟨cl, fs⟩ s = ω ++ [⟨cl, putS f s fs⟩] := by
  unfold stF
  rw [List.set_append_right _ _ (Nat.le_refl _), Nat.sub_self]
  rfl
theorem fldO_end {cl f : Str} {n0 : Nat} {ω : Store} {fs fs' : List (Str × Sl)} {ρ : Env'} {mo m : M} {d : D} (hn : n0 ≤ ω.length) (hl : fs.length < 1000) (ho : mo ρ (ω ++ [⟨cl, fs⟩]) = .ok (.obj ω.length)) (hm : m ρ (ω ++ [⟨cl, fs⟩]) = .ok d) (hd : demO [] d ρ = ρ) (hf : putS f (.own d) fs = fs') :
    sFldO cl f [] mo m n0 ρ (ω ++ [⟨cl, fs⟩]) = .nx ρ (ω ++ [⟨cl, fs'⟩]) := by
  have e1 := objAt_end (cl := cl) hn hl
  have e2 := stF_end (cl := cl) (f := f) (ω := ω) (fs := fs) (s := .own d)
  subst hf
  unfold sFldO
  simp only [hm, ofE, ho, e1, e2, hd]
theorem fldX_end {cl f : Str} {n0 : Nat} {ω : Store} {fs fs' : List (Str × Sl)} {ρ : Env'} {mo m : M} {B : List Nat} {d : D} (hn : n0 ≤ ω.length) (hl : fs.length < 1000) (ho : mo ρ (ω ++ [⟨cl, fs⟩]) = .ok (.obj ω.length)) (hm : m ρ (ω ++ [⟨cl, fs⟩]) = .ok d) (hd : dem B d ρ = ρ) (hf : putS f (.val d) fs = fs') :
    sFldX cl f mo (xP B m) n0 ρ (ω ++ [⟨cl, fs⟩]) = .nx ρ (ω ++ [⟨cl, fs'⟩]) := by
  have e1 := objAt_end (cl := cl) hn hl
  have e2 := stF_end (cl := cl) (f := f) (ω := ω) (fs := fs) (s := .val d)
  subst hf
  unfold sFldX xP
  simp only [hm, ofX, hd, ho, e1, e2]
theorem hinit_eq (n : Int) {n0 : Nat} {ω : Store} (hn : n0 ≤ ω.length) : fu_House___init__ n0 [.obj ω.length, .int n] (ω ++ [⟨"House", []⟩]) = if rgB n = true then .ok .non (ω ++ [hob n]) else .er BR (ω ++ [⟨"House", []⟩]) := by
  have e := look_ring_eq n (ω ++ [(⟨"House", []⟩ : Ob)]).length (ω ++ [(⟨"House", []⟩ : Ob)])
  show toRR (m_House___init__ n0 [.val (.obj ω.length), .val (.int n)] (ω ++ [⟨"House", []⟩])) = _
  cases h : rgB n with
  | false =>
    rw [h, if_neg Bool.false_ne_true] at e
    rw [if_neg Bool.false_ne_true]
    generalize (ω ++ [(⟨"House", []⟩ : Ob)] : Store) = ω1 at *
    unfold m_House___init__
    simp [e]
  | true =>
    rw [h, if_pos rfl] at e
    rw [if_pos rfl]
    have e0 : m_House___init__ n0 [.val (.obj ω.length), .val (.int n)] (ω ++ [⟨"House", []⟩]) = .nx [.val (.obj ω.length), .val (.int n)] (ω ++ [hob n]) := by
      unfold m_House___init__
      refine (sq_nx (ρ' := [.val (.obj ω.length), .val (.int n)]) (ω' := ω ++ [⟨"House", []⟩]) ?_).trans ?_
      · generalize (ω ++ [(⟨"House", []⟩ : Ob)] : Store) = ω1 at *
        simp [e]
      refine (sq_nx (fldX_end hn (by decide) rfl rfl rfl rfl)).trans ?_
      refine (sq_nx (fldO_end hn (Nat.le_of_ble_eq_true rfl) rfl rfl rfl rfl)).trans ?_
      refine (sq_nx (fldO_end hn (Nat.le_of_ble_eq_true rfl) rfl rfl rfl rfl)).trans ?_
      refine (sq_nx (fldO_end hn (Nat.le_of_ble_eq_true rfl) rfl rfl rfl rfl)).trans ?_
      refine (sq_nx (fldO_end hn (Nat.le_of_ble_eq_true rfl) rfl rfl rfl rfl)).trans ?_
      refine (sq_nx (fldO_end hn (Nat.le_of_ble_eq_true rfl) rfl rfl rfl rfl)).trans ?_
      refine (sq_nx (fldO_end hn (Nat.le_of_ble_eq_true rfl) rfl rfl rfl rfl)).trans ?_
      refine (sq_nx (fldX_end hn (Nat.le_of_ble_eq_true rfl) rfl rfl rfl rfl)).trans ?_
      refine (sq_nx (fldO_end hn (Nat.le_of_ble_eq_true rfl) rfl rfl rfl rfl)).trans ?_
      refine (sq_nx (fldO_end hn (Nat.le_of_ble_eq_true rfl) rfl rfl rfl rfl)).trans ?_
      exact fldO_end hn (Nat.le_of_ble_eq_true rfl) rfl rfl rfl rfl
    rw [e0]; rfl
theorem house_made (n : Int) {n0 : Nat} {ω : Store} {ρ : Env'} {xr : MXA} (hn : n0 ≤ ω.length) (hx : xr n0 ρ ω = .ok [.int n] ρ ω) : xMake "House" 2 fu_House___init__ xr n0 ρ ω = if rgB n = true then .ok (.obj ω.length) ρ (ω ++ [hob n]) else .er BR (ω ++ [⟨"House", []⟩]) := by
  have e := hinit_eq n hn
  unfold xMake
  rw [hx]
  simp only [RA.bind_ok, List.length_singleton, hn, and_self, ite_true, e]
  cases rgB n <;> rfl

/-! ### the fleets -/
abbrev Fk := List (Int × Bool)
def wayS (b : Bool) : Str := if b = true then "forward" else "backward"
def encW (F : Fk) : List (Key × D) := F.map fun p => (Sum.inl p.1, D.str (wayS p.2))
def fg : Fk → Int → Option Bool
  | [], _ => none
  | p :: r, i => if p.1 = i then some p.2 else fg r i
section
variable {F : Fk} {i : Int} {b : Bool}
theorem fg_get : kget (encW F) (Sum.inl i) = (fg F i).map fun b => D.str (wayS b) := by
  induction F with
  | nil => rfl
  | cons p r ih =>
    show (if (Sum.inl p.1 : Key) = Sum.inl i then some (D.str (wayS p.2)) else kget (encW r) _) = (if p.1 = i then some p.2 else fg r i).map _
    by_cases e : p.1 = i
    · rw [if_pos (by rw [e]), if_pos e]; rfl
    · rw [if_neg (fun q => e (by injection q)), if_neg e, ih]
theorem fg_in : gIn (.int i) (.dK (encW F)) = .ok (.bl (fg F i).isSome) := by
  have h : gIn (.int i) (.dK (encW F)) = .ok (.bl (kget (encW F) (Sum.inl i)).isSome) := rfl
  rw [h, fg_get]
  cases fg F i <;> rfl
theorem fg_nin : gNotIn (.int i) (.dK (encW F)) = .ok (.bl (fg F i).isNone) := by
  have h : gNotIn (.int i) (.dK (encW F)) = .ok (.bl (!(kget (encW F) (Sum.inl i)).isSome)) := rfl
  rw [h, fg_get]
  cases fg F i <;> rfl
theorem fg_ix (h : fg F i = some b) : gIx (.dK (encW F)) (.int i) = .ok (.str (wayS b)) := by
  show (match some (kget (encW F) (Sum.inl i)) with
      | some (some d) => Res.ok d
      | _ => .stuck) = _
  rw [fg_get, h]; rfl
theorem fg_get2 (h : fg F i = some b) (d : D) : gGet2 (.dK (encW F)) (.int i) d = .ok (.str (wayS b)) := by
  have e : dget (.dK (encW F)) (.int i) = some (kget (encW F) (Sum.inl i)) := rfl
  unfold gGet2
  rw [e, fg_get, h]; rfl
theorem fg_keys : fg F i ≠ none ↔ i ∈ F.map (·.1) := by
  induction F with
  | nil => simp [fg]
  | cons p r ih =>
    show (if p.1 = i then some p.2 else fg r i) ≠ none ↔ _
    by_cases e : p.1 = i
    · rw [if_pos e]; simp [e]
    · rw [if_neg e, ih, List.map_cons, List.mem_cons]
      constructor
      · exact .inr
      · rintro (q | q)
        · exact absurd q.symm e
        · exact q
theorem put_w (h : fg F i = none) : putD (encW F) (Sum.inl i) (.str (wayS b)) = encW (F ++ [(i, b)]) := by
  have key : ((encW F).any fun kv => decide (kv.1 = Sum.inl i)) = false := by
    rw [List.any_eq_false]
    intro kv hk
    unfold encW at hk
    obtain ⟨p, hp, e⟩ := List.mem_map.mp hk
    subst e
    have : p.1 ≠ i := fun q => by
      have := fg_keys.mpr (List.mem_map.mpr ⟨p, hp, q⟩)
      exact this h
    simpa using this
  unfold putD
  rw [key, if_neg Bool.false_ne_true]
  unfold encW
  rw [List.map_append]; rfl
theorem drop_w : dropD (encW F) (Sum.inl i) = encW (F.filter fun p => decide (p.1 ≠ i)) := by
  unfold dropD encW
  rw [List.filter_map]
  congr 1
  refine List.filter_congr fun p _ => ?_
  have h : ((Sum.inl p.1 : Key) ≠ Sum.inl i) ↔ (p.1 ≠ i) := ⟨fun q e => q (by rw [e]), fun q e => q (by injection e)⟩
  exact decide_eq_decide.mpr h
theorem ints_w : ∀ F : Fk, D.ints? ((encW F).map fun kv => kD kv.1) = some (F.map (·.1))
  | [] => rfl
  | p :: r => by
    have ih := ints_w r
    show (D.ints? ((encW r).map fun kv => kD kv.1)).map (p.1 :: ·) = _
    rw [ih]; rfl
theorem sorted_w (h : F.length < 64) : gSorted (.dK (encW F)) = .ok (.lst ((srtI (F.map (·.1))).map .int)) := by
  show (match D.ints? ((encW F).map fun kv => kD kv.1) with
    | some ns => if ns.length < 64 then Res.ok (D.lst ((srtI ns).map .int)) else .stuck
    | none => .stuck) = _
  rw [ints_w]
  exact if_pos (by rw [List.length_map]; exact h)
theorem gEq_strs (i j : Str) : gEq (.str i) (.str j) = .ok (.bl (decide (i = j))) := rfl
theorem gNe_strs (i j : Str) : gNe (.str i) (.str j) = .ok (.bl (!decide (i = j))) := rfl
theorem way_fwd : gEq (.str (wayS b)) (.str "forward") = .ok (.bl b) := by
  rw [gEq_strs]
  cases b
  · rw [decide_eq_false (by decide +kernel)]
  · rw [decide_eq_true (show wayS true = "forward" from rfl)]
end
/-! ### the house -/
def hobF (n : Int) (F : Fk) (ds ps : List D) : Ob := ⟨"House", [("islands", .val (.int n)), ("homes", .own (.dK [])), ("friends", .own (.dK [])), ("goods", .own (.dK [])), ("record", .own (.lst [])), ("pledges", .own (.lst [])), ("fleets", .own (.dK (encW F))), ("now", .val (.int 0)), ("done", .own (.lst ds)), ("past", .own (.lst ps)), ("later", .own (.lst []))]⟩
def wh (n : Int) (F : Fk) (ds ps : List D) : Store := [hobF n F ds ps]
def stD (F : Fk) : D := .tup [.dK [], .dK [], .dK [], .lst [], .lst [], .dK (encW F), .int 0]
def lies (n : Int) (b : Bool) (i : Int) : Int := (i + if b = true then 1 else -1) % n
abbrev eNI : Er := ⟨"NoIsland", "no island"⟩
section
variable {n : Int} {F : Fk} {ds ps : List D} {i : Int} {b : Bool} {n0 : Nat}
theorem wh_len : (wh n F ds ps).length = 1 := rfl
theorem f_fl : fldAt "House" "fleets" (wh n F ds ps) (.obj 0) = .ok (.dK (encW F)) := rfl
theorem f_ho : fldAt "House" "homes" (wh n F ds ps) (.obj 0) = .ok (.dK []) := rfl
theorem f_fr : fldAt "House" "friends" (wh n F ds ps) (.obj 0) = .ok (.dK []) := rfl
theorem f_go : fldAt "House" "goods" (wh n F ds ps) (.obj 0) = .ok (.dK []) := rfl
theorem f_re : fldAt "House" "record" (wh n F ds ps) (.obj 0) = .ok (.lst []) := rfl
theorem f_pl : fldAt "House" "pledges" (wh n F ds ps) (.obj 0) = .ok (.lst []) := rfl
theorem f_is : fldAt "House" "islands" (wh n F ds ps) (.obj 0) = .ok (.int n) := rfl
theorem v_is : fldVal "House" "islands" (wh n F ds ps) (.obj 0) = .ok (.int n) := rfl
theorem v_no : fldVal "House" "now" (wh n F ds ps) (.obj 0) = .ok (.int 0) := rfl
theorem look_isl : fu_House_look_island n0 [.obj 0, .int i] (wh n F ds ps) = if 0 ≤ i ∧ i < n then .ok .non (wh n F ds ps) else .er eNI (wh n F ds ps) := by
  have e := f_is (n := n) (F := F) (ds := ds) (ps := ps)
  generalize wh n F ds ps = ω at *
  by_cases h0 : i < 0
  · rw [if_neg (by omega)]
    simp [fu_House_look_island, m_House_look_island, h0]
  · by_cases h1 : i < n
    · rw [if_pos (by omega)]
      have h2 : ¬ n ≤ i := by omega
      simp [fu_House_look_island, m_House_look_island, mFld, e, h0, h2]
    · rw [if_neg (by omega)]
      have h2 : n ≤ i := by omega
      simp [fu_House_look_island, m_House_look_island, mFld, e, h0, h2]
theorem onw {ω : Store} {s : Int} (hr : rgB n = true) (hb : 0 ≤ i ∧ i < n) : fu_onward n0 [.int n, .int i, .int s] ω = .ok (.int ((i + s) % n)) ω := by
  have e := look_ring_eq n ω.length ω
  rw [hr, if_pos rfl] at e
  have h1 : ¬ i < 0 := by omega
  have h2 : ¬ n ≤ i := by omega
  have h3 : 0 < n := by omega
  have e2 : fu_look_island ω.length [.int n, .int i] ω = .ok .non ω := by
    simp [fu_look_island, m_look_island, e, h1, h2]
  simp [fu_onward, m_onward, e2, gMod, h3]
theorem lies_eq (hr : rgB n = true) (hb : 0 ≤ i ∧ i < n) (hg : fg F i = some b) : fu_House_lies_at n0 [.obj 0, .int i] (wh n F ds ps) = .ok (.int (lies n b i)) (wh n F ds ps) := by
  have e1 := f_fl (n := n) (F := F) (ds := ds) (ps := ps)
  have e2 := v_is (n := n) (F := F) (ds := ds) (ps := ps)
  have e3 := fg_nin (F := F) (i := i)
  rw [hg] at e3
  have e4 := fg_ix hg
  have e5 := way_fwd (b := b)
  have e6 : gIx (.ctup [.str "forward", .str "backward"]) (.int 0) = .ok (.str "forward") := rfl
  have o1 := onw (n0 := 1) (ω := wh n F ds ps) (s := 1) hr hb
  have o2 := onw (n0 := 1) (ω := wh n F ds ps) (s := -1) hr hb
  have hl := wh_len (n := n) (F := F) (ds := ds) (ps := ps)
  generalize wh n F ds ps = ω at *
  generalize D.dK (encW F) = E at *
  generalize D.str (wayS b) = WS at *
  unfold lies
  simp only [fu_House_lies_at, m_House_lies_at, fuOf, envS]
  cases b
  · simp [mFld, mFldV, e1, e2, e3, e4, e5, e6, o2, hl]
  · simp [mFld, mFldV, e1, e2, e3, e4, e5, e6, o1, hl]
theorem law_lies {ω : Store} (hn : 0 < n) (hg : fg F i = some b) : fu__law_lies n0 [stD F, .int n, .int i] ω = .ok (.int (lies n b i)) ω := by
  have e1 : gIx (stD F) (.int 5) = .ok (.dK (encW F)) := gIx_tup (by decide) rfl
  have e2 := fg_get2 hg (.str "")
  have e3 : gGet2 (.dK [(.inr "forward", .int 1), (.inr "backward", .int (-1))]) (.str (wayS b)) (.int 0) = .ok (.int (if b = true then 1 else -1)) := by
    cases b <;> rfl
  have hD : isDct (.dK (encW F)) = true := rfl
  have hD2 : isDct (.dK [(.inr "forward", .int 1), (.inr "backward", .int (-1))]) = true := rfl
  unfold lies
  simp only [fu__law_lies, m__law_lies, fuOf, envS]
  generalize stD F = S at *
  generalize D.dK (encW F) = E at *
  generalize D.str (wayS b) = WS at *
  generalize (if b = true then (1 : Int) else -1) = z at *
  simp [-gGet2, -isDct, e1, e2, e3, hD, hD2, gMod, hn]
end

section
variable {n : Int} {F : Fk} {ds ps : List D} {i : Int} {b : Bool} {n0 : Nat}
def okF (n : Int) (F : Fk) : Prop := ∀ p ∈ F, 0 ≤ p.1 ∧ p.1 < n
def keysF (F : Fk) : List Int := srtI (F.map (·.1))
theorem keysF_mem : i ∈ keysF F ↔ i ∈ F.map (·.1) := (srtI_perm _).mem_iff
theorem fg_some (h : i ∈ keysF F) : ∃ b, fg F i = some b := by
  have := fg_keys.mpr (keysF_mem.mp h)
  cases e : fg F i with
  | none => exact absurd e this
  | some b => exact ⟨b, rfl⟩
theorem okF_key (h : okF n F) (hi : i ∈ keysF F) : 0 ≤ i ∧ i < n := by
  obtain ⟨p, hp, e⟩ := List.mem_map.mp (keysF_mem.mp hi)
  rw [← e]
  exact h p hp
def liesF (n : Int) (F : Fk) (i : Int) : Int := lies n ((fg F i).getD false) i
def fleetsL (n : Int) (F : Fk) : List D := (keysF F).map fun i => .tup [.int i, .int (liesF n F i)]
theorem compL_map {j : Nat} {me : M} {ω : Store} {ρ : Env'} {g : Int → D} : ∀ {l : List Int}, (∀ x ∈ l, me (ρ.set j (.val (.int x))) ω = .ok (g x)) → compL j bTrue me ω ρ (l.map .int) = .ok (l.map g)
  | [], _ => rfl
  | a :: l, h => by
    have ih := compL_map (l := l) (fun x hx => h x (List.mem_cons_of_mem _ hx))
    show compL j bTrue me ω ρ (.int a :: l.map .int) = _
    unfold compL
    rw [show bTrue (ρ.set j (.val (.int a))) ω = .ok true from rfl]
    dsimp only
    rw [h a List.mem_cons_self]
    dsimp only
    rw [ih]; rfl
theorem keysF_len : (keysF F).length = F.length := by
  unfold keysF
  rw [(srtI_perm _).length_eq, List.length_map]
theorem fleets_eq (hr : rgB n = true) (ho : okF n F) (hl : F.length < 64) : fu_fleets n0 [.obj 0] (wh n F ds ps) = .ok (.lst (fleetsL n F)) (wh n F ds ps) := by
  have e1 := f_fl (n := n) (F := F) (ds := ds) (ps := ps)
  have e2 := sorted_w hl
  have hw := wh_len (n := n) (F := F) (ds := ds) (ps := ps)
  have rv : recv "House" "lies_at" (wh n F ds ps) (.obj 0) = true := rfl
  have hc : compL 1 bTrue (mTup (aCons (mV 1) (aCons (mMeth "House" "lies_at" 2 fu_House_lies_at (mV 0) (aCons (mV 1) aNil)) aNil))) (wh n F ds ps) [.val (.obj 0), .no] ((keysF F).map .int) = .ok (fleetsL n F) := by
    refine compL_map (fun x hx => ?_)
    obtain ⟨b, hb⟩ := fg_some hx
    have e := lies_eq (ds := ds) (ps := ps) (n0 := 1) hr (okF_key ho hx) hb
    unfold liesF
    rw [hb]
    generalize wh n F ds ps = ω at *
    simp [e, rv, hw]
  have hil : ((keysF F).map D.int).length ≤ 1000 := by rw [List.length_map, keysF_len]; omega
  unfold keysF at hc hil
  generalize wh n F ds ps = ω at *
  generalize D.dK (encW F) = E at *
  generalize (srtI (F.map (·.1))).map D.int = SL at *
  simp only [fu_fleets, m_fleets, fuOf, envS]
  simp [mFld, e1, e2, hil, hc, demote, dmS]
def standD (F : Fk) : D := .tup [.dK [], .dK [], .dK [], .lst [], .lst [], .dK (encW F), .int 0]
theorem stand_eq : fu_House_stand n0 [.obj 0] (wh n F ds ps) = .ok (standD F) (wh n F ds ps) := by
  have e1 := f_fl (n := n) (F := F) (ds := ds) (ps := ps)
  have e2 := f_ho (n := n) (F := F) (ds := ds) (ps := ps)
  have e3 := f_fr (n := n) (F := F) (ds := ds) (ps := ps)
  have e4 := f_go (n := n) (F := F) (ds := ds) (ps := ps)
  have e5 := f_re (n := n) (F := F) (ds := ds) (ps := ps)
  have e6 := f_pl (n := n) (F := F) (ds := ds) (ps := ps)
  have e7 := v_no (n := n) (F := F) (ds := ds) (ps := ps)
  have d1 : gDict (.dK []) = .ok (.dK []) := rfl
  have d2 : gDict (.dK (encW F)) = .ok (.dK (encW F)) := rfl
  have ha : gAdd (.tup [.dK [], .dK [], .dK []]) (.tup [.lst [], .lst [], .dK (encW F), .int 0]) = .ok (standD F) := @if_pos _ (Classical.propDecidable _) ⟨by show 3 + 4 ≤ 16777216; decide, by simp, by simp⟩ _ _ _
  generalize wh n F ds ps = ω at *
  generalize standD F = SD at *
  generalize D.dK (encW F) = E at *
  simp only [fu_House_stand, m_House_stand, fuOf, envS]
  simp [mFld, mFldV, e1, e2, e3, e4, e5, e6, e7, d1, d2, ha, demote, dmS]
theorem mark_eq {dd : D} (hf : D.free dd = true) (h1 : ds.length < 1000) (h2 : ps.length < 1000) : fu_House_mark 0 [.obj 0, dd] (wh n F ds ps) = .ok .non (wh n F (ds ++ [dd]) (ps ++ [standD F])) := by
  have o1 : ownF "House" "done" 0 (wh n F ds ps) (.obj 0) = some (0, hobF n F ds ps, .lst ds) := rfl
  have o2 : ownF "House" "past" 0 (wh n F (ds ++ [dd]) ps) (.obj 0) = some (0, hobF n F (ds ++ [dd]) ps, .lst ps) := rfl
  have o3 : objAt "House" 0 (wh n F (ds ++ [dd]) (ps ++ [standD F])) (.obj 0) = some (0, hobF n F (ds ++ [dd]) (ps ++ [standD F])) := rfl
  have t1 : stF "House" "done" (wh n F ds ps) 0 (hobF n F ds ps) (.own (.lst (ds ++ [dd]))) = wh n F (ds ++ [dd]) ps := rfl
  have t2 : stF "House" "past" (wh n F (ds ++ [dd]) ps) 0 (hobF n F (ds ++ [dd]) ps) (.own (.lst (ps ++ [standD F]))) = wh n F (ds ++ [dd]) (ps ++ [standD F]) := rfl
  have t3 : stF "House" "later" (wh n F (ds ++ [dd]) (ps ++ [standD F])) 0 (hobF n F (ds ++ [dd]) (ps ++ [standD F])) (.own (.lst [])) = wh n F (ds ++ [dd]) (ps ++ [standD F]) := rfl
  have sd := stand_eq (n := n) (F := F) (ds := ds ++ [dd]) (ps := ps) (n0 := 1)
  have rv : recv "House" "stand" (wh n F (ds ++ [dd]) ps) (.obj 0) = true := rfl
  have hw := wh_len (n := n) (F := F) (ds := ds ++ [dd]) (ps := ps)
  have hfs : D.free (standD F) = false := rfl
  have h1' : ds.length < 1000000 := by omega
  have h2' : ps.length < 1000000 := by omega
  show toRR (m_House_mark 0 [.val (.obj 0), .val dd] (wh n F ds ps)) = _
  have e0 : m_House_mark 0 [.val (.obj 0), .val dd] (wh n F ds ps) = .nx [.val (.obj 0), .val dd] (wh n F (ds ++ [dd]) (ps ++ [standD F])) := by
    unfold m_House_mark
    refine (sq_nx (ρ' := [.val (.obj 0), .val dd]) (ω' := wh n F (ds ++ [dd]) ps) ?_).trans ?_
    · generalize wh n F (ds ++ [dd]) ps = ω2 at *
      generalize wh n F ds ps = ω1 at *
      simp [hf, o1, t1, h1']
    refine (sq_nx (ρ' := [.val (.obj 0), .val dd]) (ω' := wh n F (ds ++ [dd]) (ps ++ [standD F])) ?_).trans ?_
    · generalize wh n F (ds ++ [dd]) (ps ++ [standD F]) = ω2 at *
      generalize wh n F (ds ++ [dd]) ps = ω1 at *
      generalize standD F = SD at *
      simp [sd, rv, hw, hfs, dem_nil, o2, t2, h2']
    generalize wh n F (ds ++ [dd]) (ps ++ [standD F]) = ω2 at *
    simp [o3, t3, dem_nil]
  rw [e0]; rfl
end

/-! ### the deeds -/
inductive Dd where
  | home (i : Int)
  | sail (i : Int) (w : Str)
def Dd.d : Dd → D
  | .home i => .tup [.str "home", .int i]
  | .sail i w => .tup [.str "sail", .int i, .str w]
def Dd.i : Dd → Int
  | .home i => i
  | .sail i _ => i
/-- the word of the refusal -/
def wordOf (n : Int) (F : Fk) : Dd → Str
  | .home i => if 0 ≤ i ∧ i < n then (if (fg F i).isSome = true then "" else "not away") else "no island"
  | .sail i w => if 0 ≤ i ∧ i < n then (if w = "forward" ∨ w = "backward" then (if (fg F i).isSome = true then "away" else "") else "bad way") else "no island"
def nxtF (F : Fk) : Dd → Fk
  | .home i => F.filter fun p => decide (p.1 ≠ i)
  | .sail i w => F ++ [(i, decide (w = "forward"))]
def errOf (w : Str) : Er := if w = "no island" then eNI else if w = "bad way" then ⟨"BadWay", "bad way"⟩ else if w = "away" then ⟨"Away", "away"⟩ else ⟨"NotAway", "not away"⟩
section
variable {n : Int} {F : Fk} {ds ps : List D} {i : Int} {b : Bool} {n0 : Nat}
theorem isSome_of (h : (fg F i).isSome = true) : ∃ b, fg F i = some b := by
  cases e : fg F i with
  | none => rw [e] at h; cases h
  | some b => exact ⟨b, rfl⟩
theorem isNone_of (h : ¬ (fg F i).isSome = true) : fg F i = none := by
  cases e : fg F i with
  | none => rfl
  | some b => rw [e] at h; exact absurd rfl h
theorem way_ctup (t : Str) : gNotIn (.str t) (.ctup [.str "forward", .str "backward"]) = .ok (.bl (!(decide (t = "forward") || decide (t = "backward")))) := by
  have h1 : gNotIn (.str t) (.ctup [.str "forward", .str "backward"]) = .ok (.bl (!([("forward" : Str), "backward"].any fun s => decide (s = t)))) := rfl
  rw [h1]
  show Res.ok (D.bl (!(decide (("forward" : Str) = t) || (decide (("backward" : Str) = t) || false)))) = _
  have e1 : decide (("forward" : Str) = t) = decide (t = "forward") := decide_eq_decide.mpr eq_comm
  have e2 : decide (("backward" : Str) = t) = decide (t = "backward") := decide_eq_decide.mpr eq_comm
  rw [e1, e2, Bool.or_false]
theorem way_tup (t : Str) : gNotIn (.str t) (.tup [.str "forward", .str "backward"]) = .ok (.bl (!(decide (t = "forward") || decide (t = "backward")))) := by
  have h1 : gNotIn (.str t) (.tup [.str "forward", .str "backward"]) = .ok (.bl (!(decide (("forward" : Str) = t) || (decide (("backward" : Str) = t) || false)))) := rfl
  rw [h1]
  have e1 : decide (("forward" : Str) = t) = decide (t = "forward") := decide_eq_decide.mpr eq_comm
  have e2 : decide (("backward" : Str) = t) = decide (t = "backward") := decide_eq_decide.mpr eq_comm
  rw [e1, e2, Bool.or_false]
theorem word_home1 (hr : 0 ≤ i ∧ i < n) (hs : (fg F i).isSome = true) : wordOf n F (.home i) = "" := by
  unfold wordOf; dsimp only; rw [if_pos hr, if_pos hs]
theorem word_home2 (hr : 0 ≤ i ∧ i < n) (hs : ¬ (fg F i).isSome = true) : wordOf n F (.home i) = "not away" := by
  unfold wordOf; dsimp only; rw [if_pos hr, if_neg hs]
theorem word_home3 (hr : ¬ (0 ≤ i ∧ i < n)) : wordOf n F (.home i) = "no island" := by
  unfold wordOf; dsimp only; rw [if_neg hr]
theorem word_sail1 {w : Str} (hr : 0 ≤ i ∧ i < n) (hw : w = "forward" ∨ w = "backward") (hs : (fg F i).isSome = true) : wordOf n F (.sail i w) = "away" := by
  unfold wordOf; dsimp only; rw [if_pos hr, if_pos hw, if_pos hs]
theorem word_sail2 {w : Str} (hr : 0 ≤ i ∧ i < n) (hw : w = "forward" ∨ w = "backward") (hs : ¬ (fg F i).isSome = true) : wordOf n F (.sail i w) = "" := by
  unfold wordOf; dsimp only; rw [if_pos hr, if_pos hw, if_neg hs]
theorem word_sail3 {w : Str} (hr : 0 ≤ i ∧ i < n) (hw : ¬ (w = "forward" ∨ w = "backward")) : wordOf n F (.sail i w) = "bad way" := by
  unfold wordOf; dsimp only; rw [if_pos hr, if_neg hw]
theorem word_sail4 {w : Str} (hr : ¬ (0 ≤ i ∧ i < n)) : wordOf n F (.sail i w) = "no island" := by
  unfold wordOf; dsimp only; rw [if_neg hr]
theorem err_na : errOf "not away" = ⟨"NotAway", "not away"⟩ := rfl
theorem err_ni : errOf "no island" = eNI := rfl
theorem err_bw : errOf "bad way" = ⟨"BadWay", "bad way"⟩ := rfl
theorem err_aw : errOf "away" = ⟨"Away", "away"⟩ := rfl
theorem home_eq (h1 : ds.length < 1000) (h2 : ps.length < 1000) : fu_House_home 0 [.obj 0, .int i] (wh n F ds ps) = if wordOf n F (.home i) = "" then .ok .non (wh n (nxtF F (.home i)) (ds ++ [(Dd.home i).d]) (ps ++ [standD F])) else .er (errOf (wordOf n F (.home i))) (wh n F ds ps) := by
  have lk := look_isl (n := n) (F := F) (ds := ds) (ps := ps) (i := i) (n0 := 1)
  have rv : recv "House" "look_island" (wh n F ds ps) (.obj 0) = true := rfl
  have rm : recv "House" "mark" (wh n F ds ps) (.obj 0) = true := rfl
  have hw := wh_len (n := n) (F := F) (ds := ds) (ps := ps)
  have e1 := f_fl (n := n) (F := F) (ds := ds) (ps := ps)
  have en := fg_nin (F := F) (i := i)
  by_cases hr : 0 ≤ i ∧ i < n
  · rw [if_pos hr] at lk
    by_cases hs : (fg F i).isSome = true
    · obtain ⟨b, hb⟩ := isSome_of hs
      rw [hb] at en
      rw [word_home1 hr hs, if_pos rfl]
      have mk : fu_House_mark 0 [.obj 0, .tup [.str "home", .int i]] (wh n F ds ps) = .ok .non (wh n F (ds ++ [(Dd.home i).d]) (ps ++ [standD F])) := mark_eq rfl h1 h2
      have o1 : ownF "House" "fleets" 0 (wh n F (ds ++ [(Dd.home i).d]) (ps ++ [standD F])) (.obj 0) = some (0, hobF n F (ds ++ [(Dd.home i).d]) (ps ++ [standD F]), .dK (encW F)) := rfl
      have g1 : gPopK (.dK (encW F)) (.int i) = some (.dK (encW (nxtF F (.home i)))) := by
        show (match kget (encW F) (Sum.inl i) with
          | some _ => some (D.dK (dropD (encW F) (Sum.inl i)))
          | none => none) = _
        rw [fg_get, hb, drop_w]; rfl
      have t1 : stF "House" "fleets" (wh n F (ds ++ [(Dd.home i).d]) (ps ++ [standD F])) 0 (hobF n F (ds ++ [(Dd.home i).d]) (ps ++ [standD F])) (.own (.dK (encW (nxtF F (.home i))))) = wh n (nxtF F (.home i)) (ds ++ [(Dd.home i).d]) (ps ++ [standD F]) := rfl
      generalize wh n (nxtF F (.home i)) (ds ++ [(Dd.home i).d]) (ps ++ [standD F]) = ω3 at *
      generalize wh n F (ds ++ [(Dd.home i).d]) (ps ++ [standD F]) = ω2 at *
      generalize wh n F ds ps = ω1 at *
      generalize D.dK (encW (nxtF F (.home i))) = E2 at *
      generalize D.dK (encW F) = E at *
      simp only [fu_House_home, m_House_home, fuOf, envS]
      simp [-gPopK, lk, rv, rm, hw, mFld, e1, en, mk, o1, g1, t1, demA]
    · have hb := isNone_of hs
      rw [hb] at en
      rw [word_home2 hr hs, if_neg (by decide), err_na]
      generalize wh n F ds ps = ω1 at *
      generalize D.dK (encW F) = E at *
      simp only [fu_House_home, m_House_home, fuOf, envS]
      simp [lk, rv, hw, mFld, e1, en]
  · rw [if_neg hr] at lk
    rw [word_home3 hr, if_neg (by decide), err_ni]
    generalize wh n F ds ps = ω1 at *
    simp only [fu_House_home, m_House_home, fuOf, envS]
    simp [lk, rv, hw]
theorem sail_eq {w : Str} (h1 : ds.length < 1000) (h2 : ps.length < 1000) (hl : F.length < 1000) : fu_House_sail 0 [.obj 0, .int i, .str w] (wh n F ds ps) = if wordOf n F (.sail i w) = "" then .ok .non (wh n (nxtF F (.sail i w)) (ds ++ [(Dd.sail i w).d]) (ps ++ [standD F])) else .er (errOf (wordOf n F (.sail i w))) (wh n F ds ps) := by
  have lk := look_isl (n := n) (F := F) (ds := ds) (ps := ps) (i := i) (n0 := 1)
  have rv : recv "House" "look_island" (wh n F ds ps) (.obj 0) = true := rfl
  have rm : recv "House" "mark" (wh n F ds ps) (.obj 0) = true := rfl
  have hw := wh_len (n := n) (F := F) (ds := ds) (ps := ps)
  have e1 := f_fl (n := n) (F := F) (ds := ds) (ps := ps)
  have en := fg_in (F := F) (i := i)
  have hway : gNotIn (.str w) (.ctup [.str "forward", .str "backward"]) = .ok (.bl (!decide (w = "forward" ∨ w = "backward"))) := by
    rw [way_ctup, Bool.decide_or]
  by_cases hr : 0 ≤ i ∧ i < n
  · rw [if_pos hr] at lk
    by_cases hy : w = "forward" ∨ w = "backward"
    · rw [decide_eq_true hy] at hway
      by_cases hs : (fg F i).isSome = true
      · obtain ⟨b, hb⟩ := isSome_of hs
        rw [hb] at en
        rw [word_sail1 hr hy hs, if_neg (by decide), err_aw]
        generalize wh n F ds ps = ω1 at *
        generalize D.dK (encW F) = E at *
        simp only [fu_House_sail, m_House_sail, fuOf, envS]
        simp [lk, rv, hw, mFld, e1, en, hway]
      · have hb := isNone_of hs
        rw [hb] at en
        rw [word_sail2 hr hy hs, if_pos rfl]
        have mk : fu_House_mark 0 [.obj 0, .tup [.str "sail", .int i, .str w]] (wh n F ds ps) = .ok .non (wh n F (ds ++ [(Dd.sail i w).d]) (ps ++ [standD F])) := mark_eq rfl h1 h2
        have o1 : ownF "House" "fleets" 0 (wh n F (ds ++ [(Dd.sail i w).d]) (ps ++ [standD F])) (.obj 0) = some (0, hobF n F (ds ++ [(Dd.sail i w).d]) (ps ++ [standD F]), .dK (encW F)) := rfl
        have hwb : wayS (decide (w = "forward")) = w := by
          rcases hy with q | q <;> subst q <;> decide +kernel
        have g1 : gPut (.dK (encW F)) (.int i) (.str w) = some (.dK (encW (nxtF F (.sail i w)))) := by
          have p := put_w (b := decide (w = "forward")) hb
          rw [hwb] at p
          have : gPut (.dK (encW F)) (.int i) (.str w) = some (.dK (putD (encW F) (Sum.inl i) (.str w))) := @if_pos _ (Classical.propDecidable _) (by
            show (F.map _).length < 1000000
            rw [List.length_map]; omega) _ _ _
          rw [this, p]; rfl
        have t1 : stF "House" "fleets" (wh n F (ds ++ [(Dd.sail i w).d]) (ps ++ [standD F])) 0 (hobF n F (ds ++ [(Dd.sail i w).d]) (ps ++ [standD F])) (.own (.dK (encW (nxtF F (.sail i w))))) = wh n (nxtF F (.sail i w)) (ds ++ [(Dd.sail i w).d]) (ps ++ [standD F]) := rfl
        generalize wh n (nxtF F (.sail i w)) (ds ++ [(Dd.sail i w).d]) (ps ++ [standD F]) = ω3 at *
        generalize wh n F (ds ++ [(Dd.sail i w).d]) (ps ++ [standD F]) = ω2 at *
        generalize wh n F ds ps = ω1 at *
        generalize D.dK (encW (nxtF F (.sail i w))) = E2 at *
        generalize D.dK (encW F) = E at *
        simp only [fu_House_sail, m_House_sail, fuOf, envS]
        simp [lk, rv, rm, hw, mFld, e1, en, hway, mk, o1, g1, t1, demA]
    · rw [decide_eq_false hy] at hway
      rw [word_sail3 hr hy, if_neg (by decide), err_bw]
      generalize wh n F ds ps = ω1 at *
      simp only [fu_House_sail, m_House_sail, fuOf, envS]
      simp [lk, rv, hw, hway]
  · rw [if_neg hr] at lk
    rw [word_sail4 hr, if_neg (by decide), err_ni]
    generalize wh n F ds ps = ω1 at *
    simp only [fu_House_sail, m_House_sail, fuOf, envS]
    simp [lk, rv, hw]
end

/-! ### asked, and what is due -/
def dueW (w : Str) : D := if w = "" then .tup [.str "told", .non] else .tup [.str "refused", .str w, .lst [.bl (decide (("no island" : Str) = w)), .bl (decide (("bad way" : Str) = w)), .bl (decide (("away" : Str) = w)), .bl (decide (("not away" : Str) = w))]]
section
variable {n : Int} {F : Fk} {ds ps : List D} {i : Int} {b : Bool} {n0 : Nat}
theorem word_of (d : Dd) : wordOf n F d = "" ∨ wordOf n F d = "no island" ∨ wordOf n F d = "bad way" ∨ wordOf n F d = "away" ∨ wordOf n F d = "not away" := by
  cases d with
  | home i =>
    by_cases hr : 0 ≤ i ∧ i < n
    · by_cases hs : (fg F i).isSome = true
      · exact .inl (word_home1 hr hs)
      · exact .inr (.inr (.inr (.inr (word_home2 hr hs))))
    · exact .inr (.inl (word_home3 hr))
  | sail i w =>
    by_cases hr : 0 ≤ i ∧ i < n
    · by_cases hy : w = "forward" ∨ w = "backward"
      · by_cases hs : (fg F i).isSome = true
        · exact .inr (.inr (.inr (.inl (word_sail1 hr hy hs))))
        · exact .inl (word_sail2 hr hy hs)
      · exact .inr (.inr (.inl (word_sail3 hr hy)))
    · exact .inr (.inl (word_sail4 hr))
def goF (n : Int) (F : Fk) (d : Dd) : Fk := if wordOf n F d = "" then nxtF F d else F
def goD (n : Int) (F : Fk) (ds : List D) (d : Dd) : List D := if wordOf n F d = "" then ds ++ [d.d] else ds
def goP (n : Int) (F : Fk) (ps : List D) (d : Dd) : List D := if wordOf n F d = "" then ps ++ [standD F] else ps
theorem do_eq (d : Dd) (h1 : ds.length < 1000) (h2 : ps.length < 1000) (hl : F.length < 1000) : fu__law_do 0 [.obj 0, d.d] (wh n F ds ps) = if wordOf n F d = "" then .ok .non (wh n (goF n F d) (goD n F ds d) (goP n F ps d)) else .er (errOf (wordOf n F d)) (wh n F ds ps) := by
  have rs : recv "House" "sail" (wh n F ds ps) (.obj 0) = true := rfl
  have rh : recv "House" "home" (wh n F ds ps) (.obj 0) = true := rfl
  unfold goF goD goP
  cases d with
  | home i =>
    have e := home_eq (n := n) (F := F) (i := i) h1 h2
    have g0 : gIx (Dd.home i).d (.int 0) = .ok (.str "home") := gIx_tup (by decide) rfl
    have g1 : gIx (Dd.home i).d (.int 1) = .ok (.int i) := gIx_tup (by decide) rfl
    have ne : ∀ s : Str, s ∈ ([("person" : Str), "partners", "part", "make", "sail"] : List Str) → gEq (.str "home") (.str s) = .ok (.bl false) := fun s hs => by
      rw [gEq_strs]
      simp only [List.mem_cons, List.not_mem_nil, or_false] at hs
      rcases hs with q | q | q | q | q <;> subst q <;> rw [decide_eq_false (by decide +kernel)]
    have n1 := ne "person" (by simp)
    have n2 := ne "partners" (by simp)
    have n3 := ne "part" (by simp)
    have n4 := ne "make" (by simp)
    have n5 := ne "sail" (by simp)
    have ey : gEq (.str "home") (.str "home") = .ok (.bl true) := by rw [gEq_strs, decide_eq_true rfl]
    by_cases hw : wordOf n F (.home i) = ""
    · rw [if_pos hw] at e
      simp only [if_pos hw]
      generalize wh n (nxtF F (.home i)) (ds ++ [(Dd.home i).d]) (ps ++ [standD F]) = ω2 at *
      generalize wh n F ds ps = ω1 at *
      generalize (Dd.home i).d = DD at *
      simp only [fu__law_do, m__law_do, fuOf, envS]
      simp [g0, g1, n1, n2, n3, n4, n5, ey, rh, e, demA]
    · rw [if_neg hw] at e
      simp only [if_neg hw]
      generalize wh n F ds ps = ω1 at *
      generalize (Dd.home i).d = DD at *
      generalize errOf (wordOf n F (.home i)) = ER at *
      simp only [fu__law_do, m__law_do, fuOf, envS]
      simp [g0, g1, n1, n2, n3, n4, n5, ey, rh, e, demA]
  | sail i w =>
    have e := sail_eq (n := n) (F := F) (i := i) (w := w) h1 h2 hl
    have g0 : gIx (Dd.sail i w).d (.int 0) = .ok (.str "sail") := gIx_tup (by decide) rfl
    have g1 : gIx (Dd.sail i w).d (.int 1) = .ok (.int i) := gIx_tup (by decide) rfl
    have g2 : gIx (Dd.sail i w).d (.int 2) = .ok (.str w) := gIx_tup (by decide) rfl
    have ne : ∀ s : Str, s ∈ ([("person" : Str), "partners", "part", "make"] : List Str) → gEq (.str "sail") (.str s) = .ok (.bl false) := fun s hs => by
      rw [gEq_strs]
      simp only [List.mem_cons, List.not_mem_nil, or_false] at hs
      rcases hs with q | q | q | q <;> subst q <;> rw [decide_eq_false (by decide +kernel)]
    have n1 := ne "person" (by simp)
    have n2 := ne "partners" (by simp)
    have n3 := ne "part" (by simp)
    have n4 := ne "make" (by simp)
    have ey : gEq (.str "sail") (.str "sail") = .ok (.bl true) := by rw [gEq_strs, decide_eq_true rfl]
    by_cases hw : wordOf n F (.sail i w) = ""
    · rw [if_pos hw] at e
      simp only [if_pos hw]
      generalize wh n (nxtF F (.sail i w)) (ds ++ [(Dd.sail i w).d]) (ps ++ [standD F]) = ω2 at *
      generalize wh n F ds ps = ω1 at *
      generalize (Dd.sail i w).d = DD at *
      simp only [fu__law_do, m__law_do, fuOf, envS]
      simp [g0, g1, g2, n1, n2, n3, n4, ey, rs, e, demA]
    · rw [if_neg hw] at e
      simp only [if_neg hw]
      generalize wh n F ds ps = ω1 at *
      generalize (Dd.sail i w).d = DD at *
      generalize errOf (wordOf n F (.sail i w)) = ER at *
      simp only [fu__law_do, m__law_do, fuOf, envS]
      simp [g0, g1, g2, n1, n2, n3, n4, ey, rs, e, demA]
end

section
variable {n : Int} {F : Fk} {ds ps : List D} {i : Int} {b : Bool} {n0 : Nat} {ω : Store}
theorem asked_eq (d : Dd) (h1 : ds.length < 1000) (h2 : ps.length < 1000) (hl : F.length < 1000) : fu__law_asked 0 [.obj 0, d.d] (wh n F ds ps) = .ok (dueW (wordOf n F d)) (wh n (goF n F d) (goD n F ds d) (goP n F ps d)) := by
  have e := do_eq (n := n) d h1 h2 hl
  have hf : D.free d.d = true := by cases d <;> rfl
  show toRR (m__law_asked 0 [.val (.obj 0), .val d.d, .no, .no] (wh n F ds ps)) = _
  by_cases hw : wordOf n F d = ""
  · rw [if_pos hw] at e
    have e0 : sRetX (xTup (xaCons (xP [] (mC (.str "told"))) (xaCons (xCall 2 fu__law_do (xaP ([0] ++ ([1] ++ [])) (aCons (mV 0) (aCons (mV 1) aNil)))) (xaP [] aNil)))) 0 [.val (.obj 0), .val d.d, .no, .no] (wh n F ds ps) = .rt (.tup [.str "told", .non]) (wh n (goF n F d) (goD n F ds d) (goP n F ps d)) := by
      generalize wh n (goF n F d) (goD n F ds d) (goP n F ps d) = ω2 at *
      generalize wh n F ds ps = ω1 at *
      generalize d.d = DD at *
      simp [e, hf]
    unfold m__law_asked sTry
    rw [e0, hw]
    rfl
  · rw [if_neg hw] at e
    have e0 : sRetX (xTup (xaCons (xP [] (mC (.str "told"))) (xaCons (xCall 2 fu__law_do (xaP ([0] ++ ([1] ++ [])) (aCons (mV 0) (aCons (mV 1) aNil)))) (xaP [] aNil)))) 0 [.val (.obj 0), .val d.d, .no, .no] (wh n F ds ps) = .er (errOf (wordOf n F d)) (wh n F ds ps) := by
      generalize wh n F ds ps = ω1 at *
      generalize errOf (wordOf n F d) = ER at *
      generalize d.d = DD at *
      simp [e, hf]
    have g1 : goF n F d = F := if_neg hw
    have g2 : goD n F ds d = ds := if_neg hw
    have g3 : goP n F ps d = ps := if_neg hw
    rw [g1, g2, g3]
    unfold m__law_asked sTry
    rw [e0]
    generalize wh n F ds ps = ω1
    rcases word_of (n := n) (F := F) d with q | q | q | q | q
    · exact absurd q hw
    all_goals rw [q]; rfl
theorem st5 : gIx (stD F) (.int 5) = .ok (.dK (encW F)) := gIx_tup (by decide) rfl
theorem sea_eq (d : Dd) : fu__law_sea_word n0 [stD F, .int n, d.d] ω = .ok (.str (wordOf n F d)) ω := by
  have e5 := st5 (F := F)
  cases d with
  | home i =>
    have g0 : gIx (Dd.home i).d (.int 0) = .ok (.str "home") := gIx_tup (by decide) rfl
    have g1 : gIx (Dd.home i).d (.int 1) = .ok (.int i) := gIx_tup (by decide) rfl
    have ey : gEq (.str "home") (.str "home") = .ok (.bl true) := by rw [gEq_strs, decide_eq_true rfl]
    have en := fg_in (F := F) (i := i)
    generalize stD F = S at *
    generalize (Dd.home i).d = DD at *
    generalize D.dK (encW F) = E at *
    simp only [fu__law_sea_word, m__law_sea_word, fuOf, envS]
    by_cases h0 : 0 ≤ i
    · by_cases h1 : i < n
      · by_cases hs : (fg F i).isSome = true
        · rw [word_home1 ⟨h0, h1⟩ hs]
          rw [hs] at en
          simp [e5, g0, g1, ey, en, h0, h1]
        · rw [word_home2 ⟨h0, h1⟩ hs]
          rw [Bool.not_eq_true] at hs
          rw [hs] at en
          simp [e5, g0, g1, ey, en, h0, h1]
      · rw [word_home3 (fun q => h1 q.2)]
        simp [g0, g1, h0, h1]
    · rw [word_home3 (fun q => h0 q.1)]
      simp [g0, g1, h0]
  | sail i w =>
    have g0 : gIx (Dd.sail i w).d (.int 0) = .ok (.str "sail") := gIx_tup (by decide) rfl
    have g1 : gIx (Dd.sail i w).d (.int 1) = .ok (.int i) := gIx_tup (by decide) rfl
    have g2 : gIx (Dd.sail i w).d (.int 2) = .ok (.str w) := gIx_tup (by decide) rfl
    have ey : gEq (.str "sail") (.str "home") = .ok (.bl false) := by rw [gEq_strs, decide_eq_false (by decide +kernel)]
    have en := fg_in (F := F) (i := i)
    have wt := way_tup w
    rw [← Bool.decide_or] at wt
    generalize stD F = S at *
    generalize (Dd.sail i w).d = DD at *
    generalize D.dK (encW F) = E at *
    simp only [fu__law_sea_word, m__law_sea_word, fuOf, envS]
    by_cases h0 : 0 ≤ i
    · by_cases h1 : i < n
      · by_cases hy : w = "forward" ∨ w = "backward"
        · rw [decide_eq_true hy] at wt
          by_cases hs : (fg F i).isSome = true
          · rw [word_sail1 ⟨h0, h1⟩ hy hs]
            rw [hs] at en
            simp [e5, g0, g1, g2, ey, en, h0, h1, wt]
          · rw [word_sail2 ⟨h0, h1⟩ hy hs]
            rw [Bool.not_eq_true] at hs
            rw [hs] at en
            simp [e5, g0, g1, g2, ey, en, h0, h1, wt]
        · rw [decide_eq_false hy] at wt
          rw [word_sail3 ⟨h0, h1⟩ hy]
          simp [g0, g1, g2, ey, h0, h1, wt]
      · rw [word_sail4 (fun q => h1 q.2)]
        simp [g0, g1, h0, h1]
    · rw [word_sail4 (fun q => h0 q.1)]
      simp [g0, g1, h0]
theorem next_eq (d : Dd) (hw : wordOf n F d = "") (hl : F.length < 1000) : fu__law_next n0 [stD F, .int n, d.d] ω = .ok (stD (nxtF F d)) ω := by
  have i0 : gIx (stD F) (.int 0) = .ok (.dK []) := gIx_tup (by decide) rfl
  have i1 : gIx (stD F) (.int 1) = .ok (.dK []) := gIx_tup (by decide) rfl
  have i2 : gIx (stD F) (.int 2) = .ok (.dK []) := gIx_tup (by decide) rfl
  have i3 : gIx (stD F) (.int 3) = .ok (.lst []) := gIx_tup (by decide) rfl
  have i4 : gIx (stD F) (.int 4) = .ok (.lst []) := gIx_tup (by decide) rfl
  have i5 := st5 (F := F)
  have i6 : gIx (stD F) (.int 6) = .ok (.int 0) := gIx_tup (by decide) rfl
  have d1 : gDict (.dK []) = .ok (.dK []) := rfl
  have d2 : gDict (.dK (encW F)) = .ok (.dK (encW F)) := rfl
  have hn : stD (nxtF F d) = .tup [.dK [], .dK [], .dK [], .lst [], .lst [], .dK (encW (nxtF F d)), .int 0] := rfl
  rw [hn]
  cases d with
  | home i =>
    have g0 : gIx (Dd.home i).d (.int 0) = .ok (.str "home") := gIx_tup (by decide) rfl
    have g1 : gIx (Dd.home i).d (.int 1) = .ok (.int i) := gIx_tup (by decide) rfl
    have ne : ∀ s : Str, s ∈ ([("give" : Str), "season", "vow", "person", "partners", "part", "make", "sail"] : List Str) → gEq (.str "home") (.str s) = .ok (.bl false) := fun s hs => by
      rw [gEq_strs]
      simp only [List.mem_cons, List.not_mem_nil, or_false] at hs
      rcases hs with q | q | q | q | q | q | q | q <;> subst q <;> rw [decide_eq_false (by decide +kernel)]
    have n1 := ne "person" (by simp)
    have n2 := ne "partners" (by simp)
    have n3 := ne "part" (by simp)
    have n4 := ne "make" (by simp)
    have n5 := ne "sail" (by simp)
    have n6 := ne "give" (by simp)
    have n7 := ne "season" (by simp)
    have n8 := ne "vow" (by simp)
    have hs : ∃ b, fg F i = some b := by
      by_cases hr : 0 ≤ i ∧ i < n
      · by_cases hs : (fg F i).isSome = true
        · exact isSome_of hs
        · rw [word_home2 hr hs] at hw; exact absurd hw (by decide)
      · rw [word_home3 hr] at hw; exact absurd hw (by decide)
    obtain ⟨b, hb⟩ := hs
    have kg : kget (encW F) (Sum.inl i) = some (.str (wayS b)) := by rw [fg_get, hb]; rfl
    have dp : dropD (encW F) (Sum.inl i) = encW (nxtF F (.home i)) := drop_w
    have fk : D.flatK (.int i) = some (Sum.inl i) := rfl
    generalize encW (nxtF F (.home i)) = E2 at *
    generalize stD F = S at *
    generalize (Dd.home i).d = DD at *
    generalize encW F = E at *
    simp only [fu__law_next, m__law_next, fuOf, envS]
    simp [g0, g1, n1, n2, n3, n4, n5, n6, n7, n8, i0, i1, i2, i3, i4, i5, i6, d1, d2, fk, kg, dp]
  | sail i w =>
    have g0 : gIx (Dd.sail i w).d (.int 0) = .ok (.str "sail") := gIx_tup (by decide) rfl
    have g1 : gIx (Dd.sail i w).d (.int 1) = .ok (.int i) := gIx_tup (by decide) rfl
    have g2 : gIx (Dd.sail i w).d (.int 2) = .ok (.str w) := gIx_tup (by decide) rfl
    have ne : ∀ s : Str, s ∈ ([("give" : Str), "season", "vow", "person", "partners", "part", "make"] : List Str) → gEq (.str "sail") (.str s) = .ok (.bl false) := fun s hs => by
      rw [gEq_strs]
      simp only [List.mem_cons, List.not_mem_nil, or_false] at hs
      rcases hs with q | q | q | q | q | q | q <;> subst q <;> rw [decide_eq_false (by decide +kernel)]
    have n1 := ne "person" (by simp)
    have n2 := ne "partners" (by simp)
    have n3 := ne "part" (by simp)
    have n4 := ne "make" (by simp)
    have n6 := ne "give" (by simp)
    have n7 := ne "season" (by simp)
    have n8 := ne "vow" (by simp)
    have ey : gEq (.str "sail") (.str "sail") = .ok (.bl true) := by rw [gEq_strs, decide_eq_true rfl]
    have hs : (w = "forward" ∨ w = "backward") ∧ fg F i = none := by
      by_cases hr : 0 ≤ i ∧ i < n
      · by_cases hy : w = "forward" ∨ w = "backward"
        · by_cases hs : (fg F i).isSome = true
          · rw [word_sail1 hr hy hs] at hw; exact absurd hw (by decide)
          · exact ⟨hy, isNone_of hs⟩
        · rw [word_sail3 hr hy] at hw; exact absurd hw (by decide)
      · rw [word_sail4 hr] at hw; exact absurd hw (by decide)
    obtain ⟨hy, hb⟩ := hs
    have hwb : wayS (decide (w = "forward")) = w := by
      rcases hy with q | q <;> subst q <;> decide +kernel
    have dp : putD (encW F) (Sum.inl i) (.str w) = encW (nxtF F (.sail i w)) := by
      have p := put_w (b := decide (w = "forward")) hb
      rw [hwb] at p
      exact p
    have fk : D.flatK (.int i) = some (Sum.inl i) := rfl
    have hlen : (encW F).length < 1000 := by
      show (F.map _).length < 1000
      rw [List.length_map]; exact hl
    generalize encW (nxtF F (.sail i w)) = E2 at *
    generalize stD F = S at *
    generalize (Dd.sail i w).d = DD at *
    generalize encW F = E at *
    simp only [fu__law_next, m__law_next, fuOf, envS]
    simp [g0, g1, g2, n1, n2, n3, n4, n6, n7, n8, ey, i0, i1, i2, i3, i4, i5, i6, d1, d2, fk, hlen, dp]
end

theorem sq_any {G : RS → Prop} {a b : T} {n0 : Nat} {ρ : Env'} {ω : Store} (P : Env' → Store → Prop) (h : ∃ ρ' ω', a n0 ρ ω = .nx ρ' ω' ∧ P ρ' ω') (g : ∀ ρ' ω', P ρ' ω' → G (b n0 ρ' ω')) : G (sq a b n0 ρ ω) := by
  obtain ⟨ρ', ω', e, p⟩ := h
  rw [sq_nx e]
  exact g _ _ p
theorem rngI {m j : Nat} {x : D} (h : (rangeD 0 m)[j]? = some x) : ∃ w : Nat, w < m ∧ x = .int (w : Int) := by
  have e : rangeD 0 m = (List.range m).map fun i : Nat => D.int (i : Int) := by
    unfold rangeD
    congr 1
    funext i
    rw [Int.zero_add]
  rw [e, List.getElem?_map] at h
  cases q : (List.range m)[j]? with
  | none => rw [q] at h; cases h
  | some w =>
    rw [q] at h
    exact ⟨w, List.mem_range.mp (List.mem_iff_getElem?.mpr ⟨j, q⟩), (Option.some.inj h).symm⟩
section
variable {n : Int} {F : Fk} {ds ps : List D}
theorem fleets_frees : ∀ l : List Int, D.frees (l.map fun i => D.tup [.int i, .int (liesF n F i)]) = true
  | [] => rfl
  | a :: l => by
    have ih := fleets_frees l
    show (D.free (.tup [.int a, .int (liesF n F a)]) && D.frees (l.map fun i => D.tup [.int i, .int (liesF n F i)])) = true
    rw [ih]; rfl
theorem pd_fleets (hl : F.length ≤ 100) : pd 4 (.lst (fleetsL n F)) = true := pd_lst (by
  unfold fleetsL
  rw [List.length_map, keysF_len]; omega) fun x hx => by
  unfold fleetsL at hx
  obtain ⟨a, _, e⟩ := List.mem_map.mp hx
  rw [← e]; rfl
theorem pd_due {w : Str} : pd 4 (dueW w) = true := by
  unfold dueW
  split <;> rfl
theorem islands_eq (c : Int) (n0 : Nat) (ω : Store) : ∃ n, fu__law_islands n0 [.int c] ω = .ok (.int n) ω ∧ rgB n = true := by
  obtain ⟨c', hd⟩ := draws_eq ω.length c [11] ω (fun p hp => by simp at hp; omega) (by decide)
  obtain ⟨d0, i0, a0, a1⟩ := drawsL_at (c := c') (ps := [11]) (i := 0) (p := 11) rfl (by decide)
  have hd : fu__law_draws ω.length [.int c, .lst [.int 11]] ω = .ok (.lst ((drawsL c' [11]).map .int)) ω := hd
  have g0 := ix_ints (k := 0) (by decide) i0
  generalize (drawsL c' [11]).map D.int = DR at *
  obtain ⟨n, hn, hr⟩ : ∃ n, gIx (.lst [.int 3, .int 3, .int 4, .int 3, .int 5, .int 4, .int 6, .int 20, .int 3, .int 7, .int 13]) (.int d0) = .ok (.int n) ∧ rgB n = true := by
    have : d0 = 0 ∨ d0 = 1 ∨ d0 = 2 ∨ d0 = 3 ∨ d0 = 4 ∨ d0 = 5 ∨ d0 = 6 ∨ d0 = 7 ∨ d0 = 8 ∨ d0 = 9 ∨ d0 = 10 := by omega
    rcases this with e | e | e | e | e | e | e | e | e | e | e <;> subst e
    · exact ⟨3, gIx_lst (by decide) rfl, rfl⟩
    · exact ⟨3, gIx_lst (by decide) rfl, rfl⟩
    · exact ⟨4, gIx_lst (by decide) rfl, rfl⟩
    · exact ⟨3, gIx_lst (by decide) rfl, rfl⟩
    · exact ⟨5, gIx_lst (by decide) rfl, rfl⟩
    · exact ⟨4, gIx_lst (by decide) rfl, rfl⟩
    · exact ⟨6, gIx_lst (by decide) rfl, rfl⟩
    · exact ⟨20, gIx_lst (by decide) rfl, rfl⟩
    · exact ⟨3, gIx_lst (by decide) rfl, rfl⟩
    · exact ⟨7, gIx_lst (by decide) rfl, rfl⟩
    · exact ⟨13, gIx_lst (by decide) rfl, rfl⟩
  refine ⟨n, ?_, hr⟩
  simp [fu__law_islands, m__law_islands, hd, g0, hn]
def inL : T := (sq (sSetO 11 ([2] ++ []) (mCallN 1 fu_fleets_N (aCons (mV 2) aNil)))
    (sq (sSetO 12 (13 :: (([] ++ []) ++ ([13] ++ (([3] ++ ([1] ++ ([13] ++ []))) ++ [])))) (mComp 13 ([] ++ []) (iLst (m1 (m2 (mV 3) (mC (.int 5)) gIx) gSorted)) bTrue (mTup (aCons (mV 13) (aCons (mCall 3 fu__law_lies (aCons (mV 3) (aCons (mV 1) (aCons (mV 13) aNil)))) aNil)))))
    (sq (sIf (bNot (bV (mCall 2 (fuR__law_same 4) (aCons (mV 11) (aCons (mV 12) aNil))))) (sRet (mC (.bl false))) sNx)
    (sApp 11 ([] ++ ([] ++ [])) (mTup (aCons (mC (.int 0)) (aCons (mC (.int 0)) aNil)))))))
theorem inL_eq (hr : rgB n = true) (ho : okF n F) (hl : F.length ≤ 63) (x0 x4 x5 x6 x7 x8 x9 x10 x11 x12 : Sl) : inL 0 [x0, .val (.int n), .val (.obj 0), .val (stD F), x4, x5, x6, x7, x8, x9, x10, x11, x12, .no] (wh n F ds ps) = .nx [x0, .val (.int n), .val (.obj 0), .val (stD F), x4, x5, x6, x7, x8, x9, x10, .own (.lst (fleetsL n F ++ [.tup [.int 0, .int 0]])), .own (.lst (fleetsL n F)), .no] (wh n F ds ps) := by
  have e1 := fleets_eq (n := n) (F := F) (ds := ds) (ps := ps) (n0 := 1) hr ho (by omega)
  have e1 : fu_fleets_N 1 [.obj 0] (wh n F ds ps) = .ok (.lst (fleetsL n F)) (wh n F ds ps) := e1
  have hw := wh_len (n := n) (F := F) (ds := ds) (ps := ps)
  have hfr : D.frees (fleetsL n F) = true := fleets_frees _
  have hn : 0 < n := by
    rcases rg_cases n with ⟨_, h1, _⟩ | ⟨h, _⟩
    · omega
    · rw [hr] at h; cases h
  have e5 := st5 (F := F)
  have es := sorted_w (F := F) (by omega)
  have hc : ∀ ω x11 x12, compL 13 bTrue (mTup (aCons (mV 13) (aCons (mCall 3 fu__law_lies (aCons (mV 3) (aCons (mV 1) (aCons (mV 13) aNil)))) aNil))) ω [x0, .val (.int n), .val (.obj 0), .val (stD F), x4, x5, x6, x7, x8, x9, x10, x11, x12, .no] ((keysF F).map .int) = .ok (fleetsL n F) := fun ω x11 x12 => by
    refine compL_map (fun x hx => ?_)
    obtain ⟨b, hb⟩ := fg_some hx
    have e := law_lies (n0 := ω.length) (ω := ω) hn hb
    unfold liesF
    rw [hb]
    generalize stD F = S at *
    simp [e]
  have hil : ((keysF F).map D.int).length ≤ 1000 := by rw [List.length_map, keysF_len]; omega
  have se := same_refl 4 (.lst (fleetsL n F)) 1 (wh n F ds ps) (pd_fleets (by omega))
  have hlen : (fleetsL n F).length < 1000000 := by
    unfold fleetsL
    rw [List.length_map, keysF_len]; omega
  unfold keysF at hc hil
  unfold inL
  refine (sq_nx (ρ' := [x0, .val (.int n), .val (.obj 0), .val (stD F), x4, x5, x6, x7, x8, x9, x10, .own (.lst (fleetsL n F)), x12, .no]) (ω' := wh n F ds ps) ?_).trans ?_
  · generalize wh n F ds ps = ω at *
    generalize stD F = S at *
    generalize fleetsL n F = FL at *
    simp [e1, hw, hfr]
  refine (sq_nx (ρ' := [x0, .val (.int n), .val (.obj 0), .val (stD F), x4, x5, x6, x7, x8, x9, x10, .own (.lst (fleetsL n F)), .own (.lst (fleetsL n F)), .no]) (ω' := wh n F ds ps) ?_).trans ?_
  · generalize wh n F ds ps = ω at *
    generalize stD F = S at *
    generalize fleetsL n F = FL at *
    generalize D.dK (encW F) = E at *
    generalize (srtI (F.map (·.1))).map D.int = SL at *
    simp [e5, es, hil, hc, hfr, dem_nil]
  generalize wh n F ds ps = ω at *
  generalize stD F = S at *
  generalize fleetsL n F = FL at *
  simp [se, hw, hlen]
end

def GK (n : Int) (j : Nat) (ρ : Env') (ω : Store) : Prop := ∃ x0 F ds ps x4 x5 x6 x7 x8 x9 x10 x11 x12, ρ = [x0, .val (.int n), .val (.obj 0), .val (stD F), x4, x5, x6, x7, x8, x9, x10, x11, x12, .no] ∧ ω = wh n F ds ps ∧ okF n F ∧ F.length ≤ j ∧ ds.length ≤ j ∧ ps.length ≤ j
theorem goF_ok {n : Int} {F : Fk} (h : okF n F) (d : Dd) : okF n (goF n F d) := by
  unfold goF
  split
  · rename_i hw
    cases d with
    | home i => exact fun p hp => h p (List.mem_filter.mp hp).1
    | sail i w =>
      intro p hp
      rcases List.mem_append.mp hp with q | q
      · exact h p q
      · rw [List.mem_singleton] at q
        rw [q]
        by_cases hr : 0 ≤ i ∧ i < n
        · exact hr
        · rw [word_sail4 hr] at hw; exact absurd hw (by decide)
  · exact h
theorem goF_len {n : Int} {F : Fk} (d : Dd) : (goF n F d).length ≤ F.length + 1 := by
  unfold goF
  split
  · cases d with
    | home i => exact Nat.le_trans (List.length_filter_le _ _) (Nat.le_succ _)
    | sail i w =>
      show (F ++ [_]).length ≤ _
      rw [List.length_append]; exact Nat.le_refl _
  · exact Nat.le_succ _
theorem goD_len {n : Int} {F : Fk} {ds : List D} (d : Dd) : (goD n F ds d).length ≤ ds.length + 1 := by
  unfold goD
  split
  · rw [List.length_append]; exact Nat.le_refl _
  · exact Nat.le_succ _
theorem goP_len {n : Int} {F : Fk} {ps : List D} (d : Dd) : (goP n F ps d).length ≤ ps.length + 1 := by
  unfold goP
  split
  · rw [List.length_append]; exact Nat.le_refl _
  · exact Nat.le_succ _
theorem law_true (ns : List Int) (hl : ns.length ≤ 63) : ∃ ω, toRR (m_law 0 (.own (.lst (ns.map .int)) :: List.replicate 13 .no) []) = .ok (.bl true) ω := by
  unfold m_law
  obtain ⟨c0, hc0⟩ := cell_eq ns 0 (by omega) 0 []
  have hc0 : fu__law_cell 0 [.lst (ns.map .int), .int 0] [] = .ok (.int c0) [] := hc0
  obtain ⟨n, hi, hr⟩ := islands_eq c0 0 []
  have hsl := sl_ints_from (ns := ns) (p := 1)
  have hsl : gSl (.lst (ns.map .int)) (some 1) none = .ok (.lst ((ns.drop 1).map .int)) := hsl
  have hdl : (ns.drop 1).length ≤ 62 := by rw [List.length_drop]; omega
  have hn : 0 < n := by
    rcases rg_cases n with ⟨_, h1, _⟩ | ⟨h, _⟩
    · omega
    · rw [hr] at h; cases h
  refine sq_step (G := GT) (ρ' := [.own (.lst (ns.map .int)), .val (.int n), .no, .no, .no, .no, .no, .no, .no, .no, .no, .no, .no, .no]) (ω' := []) ?_ ?_
  · generalize ns.map D.int = NS at *
    simp [hc0, hi]
  refine sq_step (G := GT) (ρ' := [.own (.lst (ns.map .int)), .val (.int n), .val (.obj 0), .no, .no, .no, .no, .no, .no, .no, .no, .no, .no, .no]) (ω' := wh n [] [] []) ?_ ?_
  · have e := house_made n (n0 := 0) (ω := []) (ρ := [.own (.lst (ns.map .int)), .val (.int n), .no, .no, .no, .no, .no, .no, .no, .no, .no, .no, .no, .no]) (xr := xaP ([1] ++ []) (aCons (mV 1) aNil)) (Nat.le_refl _) (by simp)
    rw [hr, if_pos rfl] at e
    unfold sSetX
    rw [e]
    rfl
  refine sq_step (G := GT) (ρ' := [.own (.lst (ns.map .int)), .val (.int n), .val (.obj 0), .val (stD []), .no, .no, .no, .no, .no, .no, .no, .no, .no, .no]) (ω' := wh n [] [] []) ?_ ?_
  · have e : fu__law_start 1 [] (wh n [] [] []) = .ok (stD []) (wh n [] [] []) := by
      have hs : stD [] = .tup [.dK [], .dK [], .dK [], .lst [], .lst [], .dK [], .int 0] := rfl
      rw [hs]
      generalize wh n [] [] [] = ω
      simp [fu__law_start, m__law_start]
    have hw := wh_len (n := n) (F := []) (ds := []) (ps := [])
    generalize wh n [] [] [] = ω at *
    generalize stD [] = S at *
    generalize ns.map D.int = NS at *
    simp [e, hw, dem_nil]
  refine sq_step (G := GT) (ρ' := [.own (.lst (ns.map .int)), .val (.int n), .val (.obj 0), .val (stD []), .no, .no, .no, .no, .no, .no, .no, .no, .no, .no]) (ω' := wh n [] [] []) ?_ ?_
  · have e := fleets_eq (n := n) (F := []) (ds := []) (ps := []) (n0 := 1) hr (fun p hp => (nomatch hp)) (by decide)
    have e : fu_fleets 1 [.obj 0] (wh n [] [] []) = .ok (.lst []) (wh n [] [] []) := e
    have ne : gNe (.lst []) (.lst []) = .ok (.bl false) := rfl
    have hw := wh_len (n := n) (F := []) (ds := []) (ps := [])
    generalize wh n [] [] [] = ω at *
    generalize stD [] = S at *
    generalize ns.map D.int = NS at *
    simp [e, hw, ne]
  refine sq_sfor (G := GT) (GK n) (xs := (ns.drop 1).map .int) ?_ ?_ ?_ ?_
  · generalize (ns.drop 1).map D.int = N1 at *
    generalize ns.map D.int = NS at *
    simp [-gSl_lst, hsl]
  · exact ⟨.own (.lst (ns.map .int)), [], [], [], .no, .no, .no, .no, .no, .no, .no, .no, .no, by rw [dem_nil], rfl, fun p hp => (nomatch hp), Nat.le_refl _, Nat.le_refl _, Nat.le_refl _⟩
  · rintro j x ρ ω hx ⟨x0, F, ds, ps, x4, x5, x6, x7, x8, x9, x10, x11, x12, rfl, rfl, ho, l1, l2, l3⟩
    have hj : j < 62 := by
      have := (List.getElem?_eq_some_iff.mp hx).1
      rw [List.length_map] at this
      omega
    obtain ⟨c, rfl⟩ := nsD_at hx
    refine ⟨by show 4 < 14; decide, ?_⟩
    let G : RS → Prop := fun r => ∃ ρ' ω', (r = .nx ρ' ω' ∨ r = .ct ρ' ω') ∧ GK n (j + 1) ρ' ω'
    show G _
    have hw := wh_len (n := n) (F := F) (ds := ds) (ps := ps)
    obtain ⟨c', hd⟩ := draws_eq 1 c [23, 2, 11] (wh n F ds ps) (fun p hp => by simp at hp; omega) (by decide)
    obtain ⟨d0, i0, a0, a1⟩ := drawsL_at (c := c') (ps := [23, 2, 11]) (i := 0) (p := 23) rfl (by decide)
    obtain ⟨d1, i1, b0, b1⟩ := drawsL_at (c := c') (ps := [23, 2, 11]) (i := 1) (p := 2) rfl (by decide)
    obtain ⟨d2, i2, c0', c1⟩ := drawsL_at (c := c') (ps := [23, 2, 11]) (i := 2) (p := 11) rfl (by decide)
    have hd : fu__law_draws 1 [.int c, .lst [.int 23, .int 2, .int 11]] (wh n F ds ps) = .ok (.lst ((drawsL c' [23, 2, 11]).map .int)) (wh n F ds ps) := hd
    have g0 := ix_ints (k := 0) (by decide) i0
    have g1 := ix_ints (k := 1) (by decide) i1
    have g2 := ix_ints (k := 2) (by decide) i2
    have hfr : D.free (.lst ((drawsL c' [23, 2, 11]).map .int)) = false := rfl
    generalize (drawsL c' [23, 2, 11]).map D.int = DR at *
    have hp50 : gPow (.int 10) (.int 50) = .ok (.int ((10 : Int) ^ 50)) := gPow_ok 10 50 (by decide)
    generalize (10 : Int) ^ 50 = P50 at *
    refine sq_step (G := G) (ρ' := [x0, .val (.int n), .val (.obj 0), .val (stD F), .val (.int c), .val (.lst DR), x6, x7, x8, x9, x10, x11, x12, .no]) (ω' := wh n F ds ps) ?_ ?_
    · generalize wh n F ds ps = ω at *
      generalize stD F = S at *
      simp [hd, hfr, hw, demote, dmS]
    have hn2 : 0 < n + 2 := by omega
    refine sq_step (G := G) (ρ' := [x0, .val (.int n), .val (.obj 0), .val (stD F), .val (.int c), .val (.lst DR), .val (.int (d0 % (n + 2) - 1)), x7, x8, x9, x10, x11, x12, .no]) (ω' := wh n F ds ps) ?_ ?_
    · generalize wh n F ds ps = ω at *
      generalize stD F = S at *
      simp [g0, gMod, hn2]
    refine sq_any (G := G) (fun ρ' ω' => ∃ I : Int, ρ' = [x0, .val (.int n), .val (.obj 0), .val (stD F), .val (.int c), .val (.lst DR), .val (.int I), x7, x8, x9, x10, x11, x12, .no] ∧ ω' = wh n F ds ps) ?_ ?_
    · by_cases h2 : d2 = 0
      · obtain ⟨I, hI⟩ : ∃ I : Int, gIx (.lst [.int P50, .int (-10), .int (n + d0)]) (.int (d0 % 3)) = .ok (.int I) := by
          have m0 := Int.emod_nonneg d0 (show (3 : Int) ≠ 0 by decide)
          have m1 := Int.emod_lt_of_pos d0 (show (0 : Int) < 3 by decide)
          generalize d0 % 3 = z at *
          have : z = 0 ∨ z = 1 ∨ z = 2 := by omega
          rcases this with e | e | e <;> subst e
          · exact ⟨P50, gIx_lst (by decide) rfl⟩
          · exact ⟨-10, gIx_lst (by decide) rfl⟩
          · exact ⟨n + d0, gIx_lst (by decide) rfl⟩
        have hm3 : gMod (.int d0) (.int 3) = .ok (.int (d0 % 3)) := by simp [gMod]
        refine ⟨_, _, ?_, I, rfl, rfl⟩
        subst h2
        generalize wh n F ds ps = ω at *
        generalize stD F = S at *
        simp [-gMod, -gPow_ok, g0, g2, hp50, hm3, hI]
      · refine ⟨_, _, ?_, d0 % (n + 2) - 1, rfl, rfl⟩
        generalize wh n F ds ps = ω at *
        generalize stD F = S at *
        simp [g2, h2]
    rintro ρ' ω' ⟨I, rfl, rfl⟩
    refine sq_step (G := G) (ρ' := [x0, .val (.int n), .val (.obj 0), .val (stD F), .val (.int c), .val (.lst DR), .val (.int I), .val ((Dd.home I).d), x8, x9, x10, x11, x12, .no]) (ω' := wh n F ds ps) ?_ ?_
    · have hdd : (Dd.home I).d = .tup [.str "home", .int I] := rfl
      rw [hdd]
      generalize wh n F ds ps = ω at *
      generalize stD F = S at *
      simp
    refine sq_any (G := G) (fun ρ' ω' => ∃ d : Dd, ρ' = [x0, .val (.int n), .val (.obj 0), .val (stD F), .val (.int c), .val (.lst DR), .val (.int I), .val d.d, x8, x9, x10, x11, x12, .no] ∧ ω' = wh n F ds ps) ?_ ?_
    · by_cases h2 : d1 = 0 ∨ 7 < d2
      · obtain ⟨w, hW⟩ : ∃ w : Str, gIx (.lst [.str "forward", .str "backward", .str "", .str "Forward", .str "forward", .str "backward"]) (.int (d2 % 6)) = .ok (.str w) := by
          have m0 := Int.emod_nonneg d2 (show (6 : Int) ≠ 0 by decide)
          have m1 := Int.emod_lt_of_pos d2 (show (0 : Int) < 6 by decide)
          generalize d2 % 6 = z at *
          have : z = 0 ∨ z = 1 ∨ z = 2 ∨ z = 3 ∨ z = 4 ∨ z = 5 := by omega
          rcases this with e | e | e | e | e | e <;> subst e
          · exact ⟨_, gIx_lst (by decide) rfl⟩
          · exact ⟨_, gIx_lst (by decide) rfl⟩
          · exact ⟨_, gIx_lst (by decide) rfl⟩
          · exact ⟨_, gIx_lst (by decide) rfl⟩
          · exact ⟨_, gIx_lst (by decide) rfl⟩
          · exact ⟨_, gIx_lst (by decide) rfl⟩
        have hm6 : gMod (.int d2) (.int 6) = .ok (.int (d2 % 6)) := by simp [gMod]
        refine ⟨_, _, ?_, .sail I w, rfl, rfl⟩
        have hdd : (Dd.sail I w).d = .tup [.str "sail", .int I, .str w] := rfl
        rw [hdd]
        generalize wh n F ds ps = ω at *
        generalize stD F = S at *
        generalize (Dd.home I).d = DH at *
        by_cases h3 : d1 = 0
        · subst h3
          simp [-gMod, g1, g2, hm6, hW]
        · have h4 : 7 < d2 := by omega
          simp [-gMod, g1, g2, hm6, hW, h3, h4]
      · refine ⟨_, _, ?_, .home I, rfl, rfl⟩
        have h3 : ¬ d1 = 0 := fun q => h2 (.inl q)
        have h4 : ¬ 7 < d2 := fun q => h2 (.inr q)
        generalize wh n F ds ps = ω at *
        generalize stD F = S at *
        generalize (Dd.home I).d = DH at *
        simp [g1, g2, h3, h4]
    rintro ρ' ω' ⟨d, rfl, rfl⟩
    have esea := sea_eq (n := n) (F := F) (n0 := 1) (ω := wh n F ds ps) d
    refine sq_step (G := G) (ρ' := [x0, .val (.int n), .val (.obj 0), .val (stD F), .val (.int c), .val (.lst DR), .val (.int I), .val d.d, .val (.str (wordOf n F d)), x9, x10, x11, x12, .no]) (ω' := wh n F ds ps) ?_ ?_
    · generalize wh n F ds ps = ω at *
      generalize stD F = S at *
      generalize d.d = DD at *
      generalize wordOf n F d = WD at *
      simp [esea, hw]
    refine sq_step (G := G) (ρ' := [x0, .val (.int n), .val (.obj 0), .val (stD F), .val (.int c), .val (.lst DR), .val (.int I), .val d.d, .val (.str (wordOf n F d)), .val (.tup [.str "told", .non]), x10, x11, x12, .no]) (ω' := wh n F ds ps) ?_ ?_
    · generalize wh n F ds ps = ω at *
      generalize stD F = S at *
      generalize d.d = DD at *
      generalize wordOf n F d = WD at *
      simp
    refine sq_step (G := G) (ρ' := [x0, .val (.int n), .val (.obj 0), .val (stD (goF n F d)), .val (.int c), .val (.lst DR), .val (.int I), .val d.d, .val (.str (wordOf n F d)), .val (dueW (wordOf n F d)), x10, x11, x12, .no]) (ω' := wh n F ds ps) ?_ ?_
    · by_cases hq : wordOf n F d = ""
      · have en := next_eq (n := n) (F := F) (n0 := 1) (ω := wh n F ds ps) d hq (by omega)
        have g : goF n F d = nxtF F d := if_pos hq
        have du : dueW (wordOf n F d) = .tup [.str "told", .non] := if_pos hq
        have hs2 : D.free (stD (nxtF F d)) = false := rfl
        have ne : gNe (.str (wordOf n F d)) (.str "") = .ok (.bl false) := by rw [gNe_strs, decide_eq_true hq]; rfl
        rw [g, du]
        generalize wh n F ds ps = ω at *
        generalize stD (nxtF F d) = S2 at *
        generalize stD F = S at *
        generalize d.d = DD at *
        generalize D.str (wordOf n F d) = WD at *
        simp [ne, en, hw, hs2, demote, dmS]
      · have g : goF n F d = F := if_neg hq
        have du : dueW (wordOf n F d) = .tup [.str "refused", .str (wordOf n F d), .lst [.bl (decide (("no island" : Str) = wordOf n F d)), .bl (decide (("bad way" : Str) = wordOf n F d)), .bl (decide (("away" : Str) = wordOf n F d)), .bl (decide (("not away" : Str) = wordOf n F d))]] := if_neg hq
        have ne : gNe (.str (wordOf n F d)) (.str "") = .ok (.bl true) := by rw [gNe_strs, decide_eq_false hq]; rfl
        have hc : ∀ (ω : Store) (S DD : D) (y9 : Sl), compL 13 bTrue (m2 (mV 13) (mV 8) gEq) ω [x0, .val (.int n), .val (.obj 0), .val S, .val (.int c), .val (.lst DR), .val (.int I), .val DD, .val (.str (wordOf n F d)), y9, x10, x11, x12, .no] [.str "no island", .str "bad way", .str "away", .str "not away"] = .ok [.bl (decide (("no island" : Str) = wordOf n F d)), .bl (decide (("bad way" : Str) = wordOf n F d)), .bl (decide (("away" : Str) = wordOf n F d)), .bl (decide (("not away" : Str) = wordOf n F d))] := fun _ _ _ _ => rfl
        rw [g, du]
        generalize decide (("no island" : Str) = wordOf n F d) = q1 at *
        generalize decide (("bad way" : Str) = wordOf n F d) = q2 at *
        generalize decide (("away" : Str) = wordOf n F d) = q3 at *
        generalize decide (("not away" : Str) = wordOf n F d) = q4 at *
        generalize wh n F ds ps = ω at *
        generalize stD F = S at *
        generalize d.d = DD at *
        generalize wordOf n F d = WD at *
        simp [ne, hc, demote, dmS]
    have ea := asked_eq (n := n) (F := F) (ds := ds) (ps := ps) d (by omega) (by omega) (by omega)
    have es := same_refl 4 (dueW (wordOf n F d)) 0 (wh n (goF n F d) (goD n F ds d) (goP n F ps d)) pd_due
    have hfd : D.free d.d = true := by cases d <;> rfl
    refine sq_step (G := G) (ρ' := [x0, .val (.int n), .val (.obj 0), .val (stD (goF n F d)), .val (.int c), .val (.lst DR), .val (.int I), .val d.d, .val (.str (wordOf n F d)), .val (dueW (wordOf n F d)), x10, x11, x12, .no]) (ω' := wh n (goF n F d) (goD n F ds d) (goP n F ps d)) ?_ ?_
    · generalize wh n (goF n F d) (goD n F ds d) (goP n F ps d) = ω2 at *
      generalize wh n F ds ps = ω at *
      generalize stD (goF n F d) = S2 at *
      generalize d.d = DD at *
      generalize dueW (wordOf n F d) = DW at *
      generalize wordOf n F d = WD at *
      simp [ea, es, hfd]
      intro _
      simp [demote, dmS]
    have ho2 := goF_ok ho d
    have l1' := goF_len (n := n) (F := F) d
    have l2' := goD_len (n := n) (F := F) (ds := ds) d
    have l3' := goP_len (n := n) (F := F) (ps := ps) d
    generalize goF n F d = F2 at *
    generalize goD n F ds d = ds2 at *
    generalize goP n F ps d = ps2 at *
    generalize Sl.val (.str (wordOf n F d)) = x8' at *
    generalize Sl.val (dueW (wordOf n F d)) = x9' at *
    have r2 : asRng1 (.int 2) = .ok (rangeD 0 2) := asRng1_len (n := 2) (by decide)
    obtain ⟨ρ', ω', e, x10', x11', x12', rfl, rfl⟩ := sfor_all (n0 := 0) (i := 10) (b := inL) (B := []) (ms := iRng (mC (.int 2))) (xs := rangeD 0 2) (ρ := [x0, .val (.int n), .val (.obj 0), .val (stD F2), .val (.int c), .val (.lst DR), .val (.int I), .val d.d, x8', x9', x10, x11, x12, .no]) (ω := wh n F2 ds2 ps2)
      (fun _ ρ ω => ∃ x10 x11 x12, ρ = [x0, .val (.int n), .val (.obj 0), .val (stD F2), .val (.int c), .val (.lst DR), .val (.int I), .val d.d, x8', x9', x10, x11, x12, .no] ∧ ω = wh n F2 ds2 ps2) (by simp [r2]) ⟨x10, x11, x12, by rw [dem_nil], rfl⟩ (by
        rintro j' x ρ ω hx ⟨y10, y11, y12, rfl, rfl⟩
        obtain ⟨w, hw, rfl⟩ := rngI hx
        exact ⟨by show 10 < 14; decide, _, _, .inl (inL_eq hr ho2 (by omega) _ _ _ _ _ _ _ _ _ _), _, _, _, rfl, rfl⟩)
    exact ⟨_, _, .inl e, _, _, _, _, _, _, _, _, _, _, _, _, _, rfl, rfl, ho2, by omega, by omega, by omega⟩
  · rintro ρ ω ⟨x0, F, ds, ps, x4, x5, x6, x7, x8, x9, x10, x11, x12, rfl, rfl, _⟩
    exact ⟨_, rfl⟩

set_option maxHeartbeats 0
abbrev i_RoundError : Stmt := inClass (top 2) 0
theorem si_RoundError : FnScope ["self", "word"] ["self", "word"] (defScope i_RoundError) := ⟨rfl, rfl, rfl, by decide +kernel, rfl, by decide +kernel, by decide +kernel⟩
abbrev i_BadRing : Stmt := inClass (top 3) 0
theorem si_BadRing : FnScope ["self"] ["self"] (defScope i_BadRing) := ⟨rfl, rfl, rfl, by decide +kernel, rfl, by decide +kernel, by decide +kernel⟩
theorem xc_BadRing {P : Program} {w : World} {K : PySem.W.Frag} {mg : Str → Option Value} {base : Heap} {f fR C CR : Addr} {fd fdR : FuncData} (F : FunD K "__init__" "BadRing.__init__" (defArgs i_BadRing) (defBody i_BadRing) (defScope i_BadRing) [] [] f fd) (e : EC K mg "BadRing" C f) (FR : FnOk P w K mg base (L2.CX P w) 1 fR fdR ["self", "word"] (spR K)) (bR : Binds K fdR ["self", "word"] []) (mR : mg "RoundError" = some (.ref CR)) (cf : CF K CR "__init__" fR) (kp : PySem.W.keepIn K (.ref fR) = true) : Xc P w K mg base "BadRing" "bad ring" :=
  ⟨C, f, fd, e, FunD.bindsN (ps := ["self"]) F fun _ _ _ _ _ _ us hl => match us, hl with | [_], _ => rfl, okC F si_BadRing (fun cdv A outer s H E hr => pss_one (ps_expr (pe_clsfun rfl mR cf kp FR hr bR .nil passL (pa_cons (pv 0) (pa_cons pe_str pa_nil)))))⟩
abbrev i_BadName : Stmt := inClass (top 4) 0
theorem si_BadName : FnScope ["self"] ["self"] (defScope i_BadName) := ⟨rfl, rfl, rfl, by decide +kernel, rfl, by decide +kernel, by decide +kernel⟩
theorem xc_BadName {P : Program} {w : World} {K : PySem.W.Frag} {mg : Str → Option Value} {base : Heap} {f fR C CR : Addr} {fd fdR : FuncData} (F : FunD K "__init__" "BadName.__init__" (defArgs i_BadName) (defBody i_BadName) (defScope i_BadName) [] [] f fd) (e : EC K mg "BadName" C f) (FR : FnOk P w K mg base (L2.CX P w) 1 fR fdR ["self", "word"] (spR K)) (bR : Binds K fdR ["self", "word"] []) (mR : mg "RoundError" = some (.ref CR)) (cf : CF K CR "__init__" fR) (kp : PySem.W.keepIn K (.ref fR) = true) : Xc P w K mg base "BadName" "bad name" :=
  ⟨C, f, fd, e, FunD.bindsN (ps := ["self"]) F fun _ _ _ _ _ _ us hl => match us, hl with | [_], _ => rfl, okC F si_BadName (fun cdv A outer s H E hr => pss_one (ps_expr (pe_clsfun rfl mR cf kp FR hr bR .nil passL (pa_cons (pv 0) (pa_cons pe_str pa_nil)))))⟩
abbrev i_Taken : Stmt := inClass (top 5) 0
theorem si_Taken : FnScope ["self"] ["self"] (defScope i_Taken) := ⟨rfl, rfl, rfl, by decide +kernel, rfl, by decide +kernel, by decide +kernel⟩
theorem xc_Taken {P : Program} {w : World} {K : PySem.W.Frag} {mg : Str → Option Value} {base : Heap} {f fR C CR : Addr} {fd fdR : FuncData} (F : FunD K "__init__" "Taken.__init__" (defArgs i_Taken) (defBody i_Taken) (defScope i_Taken) [] [] f fd) (e : EC K mg "Taken" C f) (FR : FnOk P w K mg base (L2.CX P w) 1 fR fdR ["self", "word"] (spR K)) (bR : Binds K fdR ["self", "word"] []) (mR : mg "RoundError" = some (.ref CR)) (cf : CF K CR "__init__" fR) (kp : PySem.W.keepIn K (.ref fR) = true) : Xc P w K mg base "Taken" "taken" :=
  ⟨C, f, fd, e, FunD.bindsN (ps := ["self"]) F fun _ _ _ _ _ _ us hl => match us, hl with | [_], _ => rfl, okC F si_Taken (fun cdv A outer s H E hr => pss_one (ps_expr (pe_clsfun rfl mR cf kp FR hr bR .nil passL (pa_cons (pv 0) (pa_cons pe_str pa_nil)))))⟩
abbrev i_NoIsland : Stmt := inClass (top 6) 0
theorem si_NoIsland : FnScope ["self"] ["self"] (defScope i_NoIsland) := ⟨rfl, rfl, rfl, by decide +kernel, rfl, by decide +kernel, by decide +kernel⟩
theorem xc_NoIsland {P : Program} {w : World} {K : PySem.W.Frag} {mg : Str → Option Value} {base : Heap} {f fR C CR : Addr} {fd fdR : FuncData} (F : FunD K "__init__" "NoIsland.__init__" (defArgs i_NoIsland) (defBody i_NoIsland) (defScope i_NoIsland) [] [] f fd) (e : EC K mg "NoIsland" C f) (FR : FnOk P w K mg base (L2.CX P w) 1 fR fdR ["self", "word"] (spR K)) (bR : Binds K fdR ["self", "word"] []) (mR : mg "RoundError" = some (.ref CR)) (cf : CF K CR "__init__" fR) (kp : PySem.W.keepIn K (.ref fR) = true) : Xc P w K mg base "NoIsland" "no island" :=
  ⟨C, f, fd, e, FunD.bindsN (ps := ["self"]) F fun _ _ _ _ _ _ us hl => match us, hl with | [_], _ => rfl, okC F si_NoIsland (fun cdv A outer s H E hr => pss_one (ps_expr (pe_clsfun rfl mR cf kp FR hr bR .nil passL (pa_cons (pv 0) (pa_cons pe_str pa_nil)))))⟩
abbrev i_NoPerson : Stmt := inClass (top 7) 0
theorem si_NoPerson : FnScope ["self"] ["self"] (defScope i_NoPerson) := ⟨rfl, rfl, rfl, by decide +kernel, rfl, by decide +kernel, by decide +kernel⟩
theorem xc_NoPerson {P : Program} {w : World} {K : PySem.W.Frag} {mg : Str → Option Value} {base : Heap} {f fR C CR : Addr} {fd fdR : FuncData} (F : FunD K "__init__" "NoPerson.__init__" (defArgs i_NoPerson) (defBody i_NoPerson) (defScope i_NoPerson) [] [] f fd) (e : EC K mg "NoPerson" C f) (FR : FnOk P w K mg base (L2.CX P w) 1 fR fdR ["self", "word"] (spR K)) (bR : Binds K fdR ["self", "word"] []) (mR : mg "RoundError" = some (.ref CR)) (cf : CF K CR "__init__" fR) (kp : PySem.W.keepIn K (.ref fR) = true) : Xc P w K mg base "NoPerson" "no person" :=
  ⟨C, f, fd, e, FunD.bindsN (ps := ["self"]) F fun _ _ _ _ _ _ us hl => match us, hl with | [_], _ => rfl, okC F si_NoPerson (fun cdv A outer s H E hr => pss_one (ps_expr (pe_clsfun rfl mR cf kp FR hr bR .nil passL (pa_cons (pv 0) (pa_cons pe_str pa_nil)))))⟩
abbrev i_NotNeighbours : Stmt := inClass (top 8) 0
theorem si_NotNeighbours : FnScope ["self"] ["self"] (defScope i_NotNeighbours) := ⟨rfl, rfl, rfl, by decide +kernel, rfl, by decide +kernel, by decide +kernel⟩
theorem xc_NotNeighbours {P : Program} {w : World} {K : PySem.W.Frag} {mg : Str → Option Value} {base : Heap} {f fR C CR : Addr} {fd fdR : FuncData} (F : FunD K "__init__" "NotNeighbours.__init__" (defArgs i_NotNeighbours) (defBody i_NotNeighbours) (defScope i_NotNeighbours) [] [] f fd) (e : EC K mg "NotNeighbours" C f) (FR : FnOk P w K mg base (L2.CX P w) 1 fR fdR ["self", "word"] (spR K)) (bR : Binds K fdR ["self", "word"] []) (mR : mg "RoundError" = some (.ref CR)) (cf : CF K CR "__init__" fR) (kp : PySem.W.keepIn K (.ref fR) = true) : Xc P w K mg base "NotNeighbours" "not neighbours" :=
  ⟨C, f, fd, e, FunD.bindsN (ps := ["self"]) F fun _ _ _ _ _ _ us hl => match us, hl with | [_], _ => rfl, okC F si_NotNeighbours (fun cdv A outer s H E hr => pss_one (ps_expr (pe_clsfun rfl mR cf kp FR hr bR .nil passL (pa_cons (pv 0) (pa_cons pe_str pa_nil)))))⟩
abbrev i_Twice : Stmt := inClass (top 9) 0
theorem si_Twice : FnScope ["self"] ["self"] (defScope i_Twice) := ⟨rfl, rfl, rfl, by decide +kernel, rfl, by decide +kernel, by decide +kernel⟩
theorem xc_Twice {P : Program} {w : World} {K : PySem.W.Frag} {mg : Str → Option Value} {base : Heap} {f fR C CR : Addr} {fd fdR : FuncData} (F : FunD K "__init__" "Twice.__init__" (defArgs i_Twice) (defBody i_Twice) (defScope i_Twice) [] [] f fd) (e : EC K mg "Twice" C f) (FR : FnOk P w K mg base (L2.CX P w) 1 fR fdR ["self", "word"] (spR K)) (bR : Binds K fdR ["self", "word"] []) (mR : mg "RoundError" = some (.ref CR)) (cf : CF K CR "__init__" fR) (kp : PySem.W.keepIn K (.ref fR) = true) : Xc P w K mg base "Twice" "told twice" :=
  ⟨C, f, fd, e, FunD.bindsN (ps := ["self"]) F fun _ _ _ _ _ _ us hl => match us, hl with | [_], _ => rfl, okC F si_Twice (fun cdv A outer s H E hr => pss_one (ps_expr (pe_clsfun rfl mR cf kp FR hr bR .nil passL (pa_cons (pv 0) (pa_cons pe_str pa_nil)))))⟩
abbrev i_NotPartners : Stmt := inClass (top 10) 0
theorem si_NotPartners : FnScope ["self"] ["self"] (defScope i_NotPartners) := ⟨rfl, rfl, rfl, by decide +kernel, rfl, by decide +kernel, by decide +kernel⟩
theorem xc_NotPartners {P : Program} {w : World} {K : PySem.W.Frag} {mg : Str → Option Value} {base : Heap} {f fR C CR : Addr} {fd fdR : FuncData} (F : FunD K "__init__" "NotPartners.__init__" (defArgs i_NotPartners) (defBody i_NotPartners) (defScope i_NotPartners) [] [] f fd) (e : EC K mg "NotPartners" C f) (FR : FnOk P w K mg base (L2.CX P w) 1 fR fdR ["self", "word"] (spR K)) (bR : Binds K fdR ["self", "word"] []) (mR : mg "RoundError" = some (.ref CR)) (cf : CF K CR "__init__" fR) (kp : PySem.W.keepIn K (.ref fR) = true) : Xc P w K mg base "NotPartners" "not partners" :=
  ⟨C, f, fd, e, FunD.bindsN (ps := ["self"]) F fun _ _ _ _ _ _ us hl => match us, hl with | [_], _ => rfl, okC F si_NotPartners (fun cdv A outer s H E hr => pss_one (ps_expr (pe_clsfun rfl mR cf kp FR hr bR .nil passL (pa_cons (pv 0) (pa_cons pe_str pa_nil)))))⟩
abbrev i_Owing : Stmt := inClass (top 11) 0
theorem si_Owing : FnScope ["self"] ["self"] (defScope i_Owing) := ⟨rfl, rfl, rfl, by decide +kernel, rfl, by decide +kernel, by decide +kernel⟩
theorem xc_Owing {P : Program} {w : World} {K : PySem.W.Frag} {mg : Str → Option Value} {base : Heap} {f fR C CR : Addr} {fd fdR : FuncData} (F : FunD K "__init__" "Owing.__init__" (defArgs i_Owing) (defBody i_Owing) (defScope i_Owing) [] [] f fd) (e : EC K mg "Owing" C f) (FR : FnOk P w K mg base (L2.CX P w) 1 fR fdR ["self", "word"] (spR K)) (bR : Binds K fdR ["self", "word"] []) (mR : mg "RoundError" = some (.ref CR)) (cf : CF K CR "__init__" fR) (kp : PySem.W.keepIn K (.ref fR) = true) : Xc P w K mg base "Owing" "owing" :=
  ⟨C, f, fd, e, FunD.bindsN (ps := ["self"]) F fun _ _ _ _ _ _ us hl => match us, hl with | [_], _ => rfl, okC F si_Owing (fun cdv A outer s H E hr => pss_one (ps_expr (pe_clsfun rfl mR cf kp FR hr bR .nil passL (pa_cons (pv 0) (pa_cons pe_str pa_nil)))))⟩
abbrev i_BadKind : Stmt := inClass (top 12) 0
theorem si_BadKind : FnScope ["self"] ["self"] (defScope i_BadKind) := ⟨rfl, rfl, rfl, by decide +kernel, rfl, by decide +kernel, by decide +kernel⟩
theorem xc_BadKind {P : Program} {w : World} {K : PySem.W.Frag} {mg : Str → Option Value} {base : Heap} {f fR C CR : Addr} {fd fdR : FuncData} (F : FunD K "__init__" "BadKind.__init__" (defArgs i_BadKind) (defBody i_BadKind) (defScope i_BadKind) [] [] f fd) (e : EC K mg "BadKind" C f) (FR : FnOk P w K mg base (L2.CX P w) 1 fR fdR ["self", "word"] (spR K)) (bR : Binds K fdR ["self", "word"] []) (mR : mg "RoundError" = some (.ref CR)) (cf : CF K CR "__init__" fR) (kp : PySem.W.keepIn K (.ref fR) = true) : Xc P w K mg base "BadKind" "bad kind" :=
  ⟨C, f, fd, e, FunD.bindsN (ps := ["self"]) F fun _ _ _ _ _ _ us hl => match us, hl with | [_], _ => rfl, okC F si_BadKind (fun cdv A outer s H E hr => pss_one (ps_expr (pe_clsfun rfl mR cf kp FR hr bR .nil passL (pa_cons (pv 0) (pa_cons pe_str pa_nil)))))⟩
abbrev i_BadRank : Stmt := inClass (top 13) 0
theorem si_BadRank : FnScope ["self"] ["self"] (defScope i_BadRank) := ⟨rfl, rfl, rfl, by decide +kernel, rfl, by decide +kernel, by decide +kernel⟩
theorem xc_BadRank {P : Program} {w : World} {K : PySem.W.Frag} {mg : Str → Option Value} {base : Heap} {f fR C CR : Addr} {fd fdR : FuncData} (F : FunD K "__init__" "BadRank.__init__" (defArgs i_BadRank) (defBody i_BadRank) (defScope i_BadRank) [] [] f fd) (e : EC K mg "BadRank" C f) (FR : FnOk P w K mg base (L2.CX P w) 1 fR fdR ["self", "word"] (spR K)) (bR : Binds K fdR ["self", "word"] []) (mR : mg "RoundError" = some (.ref CR)) (cf : CF K CR "__init__" fR) (kp : PySem.W.keepIn K (.ref fR) = true) : Xc P w K mg base "BadRank" "bad rank" :=
  ⟨C, f, fd, e, FunD.bindsN (ps := ["self"]) F fun _ _ _ _ _ _ us hl => match us, hl with | [_], _ => rfl, okC F si_BadRank (fun cdv A outer s H E hr => pss_one (ps_expr (pe_clsfun rfl mR cf kp FR hr bR .nil passL (pa_cons (pv 0) (pa_cons pe_str pa_nil)))))⟩
abbrev i_NoThing : Stmt := inClass (top 14) 0
theorem si_NoThing : FnScope ["self"] ["self"] (defScope i_NoThing) := ⟨rfl, rfl, rfl, by decide +kernel, rfl, by decide +kernel, by decide +kernel⟩
theorem xc_NoThing {P : Program} {w : World} {K : PySem.W.Frag} {mg : Str → Option Value} {base : Heap} {f fR C CR : Addr} {fd fdR : FuncData} (F : FunD K "__init__" "NoThing.__init__" (defArgs i_NoThing) (defBody i_NoThing) (defScope i_NoThing) [] [] f fd) (e : EC K mg "NoThing" C f) (FR : FnOk P w K mg base (L2.CX P w) 1 fR fdR ["self", "word"] (spR K)) (bR : Binds K fdR ["self", "word"] []) (mR : mg "RoundError" = some (.ref CR)) (cf : CF K CR "__init__" fR) (kp : PySem.W.keepIn K (.ref fR) = true) : Xc P w K mg base "NoThing" "no thing" :=
  ⟨C, f, fd, e, FunD.bindsN (ps := ["self"]) F fun _ _ _ _ _ _ us hl => match us, hl with | [_], _ => rfl, okC F si_NoThing (fun cdv A outer s H E hr => pss_one (ps_expr (pe_clsfun rfl mR cf kp FR hr bR .nil passL (pa_cons (pv 0) (pa_cons pe_str pa_nil)))))⟩
abbrev i_WrongWay : Stmt := inClass (top 15) 0
theorem si_WrongWay : FnScope ["self"] ["self"] (defScope i_WrongWay) := ⟨rfl, rfl, rfl, by decide +kernel, rfl, by decide +kernel, by decide +kernel⟩
theorem xc_WrongWay {P : Program} {w : World} {K : PySem.W.Frag} {mg : Str → Option Value} {base : Heap} {f fR C CR : Addr} {fd fdR : FuncData} (F : FunD K "__init__" "WrongWay.__init__" (defArgs i_WrongWay) (defBody i_WrongWay) (defScope i_WrongWay) [] [] f fd) (e : EC K mg "WrongWay" C f) (FR : FnOk P w K mg base (L2.CX P w) 1 fR fdR ["self", "word"] (spR K)) (bR : Binds K fdR ["self", "word"] []) (mR : mg "RoundError" = some (.ref CR)) (cf : CF K CR "__init__" fR) (kp : PySem.W.keepIn K (.ref fR) = true) : Xc P w K mg base "WrongWay" "wrong way" :=
  ⟨C, f, fd, e, FunD.bindsN (ps := ["self"]) F fun _ _ _ _ _ _ us hl => match us, hl with | [_], _ => rfl, okC F si_WrongWay (fun cdv A outer s H E hr => pss_one (ps_expr (pe_clsfun rfl mR cf kp FR hr bR .nil passL (pa_cons (pv 0) (pa_cons pe_str pa_nil)))))⟩
abbrev i_NoFleet : Stmt := inClass (top 16) 0
theorem si_NoFleet : FnScope ["self"] ["self"] (defScope i_NoFleet) := ⟨rfl, rfl, rfl, by decide +kernel, rfl, by decide +kernel, by decide +kernel⟩
theorem xc_NoFleet {P : Program} {w : World} {K : PySem.W.Frag} {mg : Str → Option Value} {base : Heap} {f fR C CR : Addr} {fd fdR : FuncData} (F : FunD K "__init__" "NoFleet.__init__" (defArgs i_NoFleet) (defBody i_NoFleet) (defScope i_NoFleet) [] [] f fd) (e : EC K mg "NoFleet" C f) (FR : FnOk P w K mg base (L2.CX P w) 1 fR fdR ["self", "word"] (spR K)) (bR : Binds K fdR ["self", "word"] []) (mR : mg "RoundError" = some (.ref CR)) (cf : CF K CR "__init__" fR) (kp : PySem.W.keepIn K (.ref fR) = true) : Xc P w K mg base "NoFleet" "no fleet" :=
  ⟨C, f, fd, e, FunD.bindsN (ps := ["self"]) F fun _ _ _ _ _ _ us hl => match us, hl with | [_], _ => rfl, okC F si_NoFleet (fun cdv A outer s H E hr => pss_one (ps_expr (pe_clsfun rfl mR cf kp FR hr bR .nil passL (pa_cons (pv 0) (pa_cons pe_str pa_nil)))))⟩
abbrev i_BadWay : Stmt := inClass (top 17) 0
theorem si_BadWay : FnScope ["self"] ["self"] (defScope i_BadWay) := ⟨rfl, rfl, rfl, by decide +kernel, rfl, by decide +kernel, by decide +kernel⟩
theorem xc_BadWay {P : Program} {w : World} {K : PySem.W.Frag} {mg : Str → Option Value} {base : Heap} {f fR C CR : Addr} {fd fdR : FuncData} (F : FunD K "__init__" "BadWay.__init__" (defArgs i_BadWay) (defBody i_BadWay) (defScope i_BadWay) [] [] f fd) (e : EC K mg "BadWay" C f) (FR : FnOk P w K mg base (L2.CX P w) 1 fR fdR ["self", "word"] (spR K)) (bR : Binds K fdR ["self", "word"] []) (mR : mg "RoundError" = some (.ref CR)) (cf : CF K CR "__init__" fR) (kp : PySem.W.keepIn K (.ref fR) = true) : Xc P w K mg base "BadWay" "bad way" :=
  ⟨C, f, fd, e, FunD.bindsN (ps := ["self"]) F fun _ _ _ _ _ _ us hl => match us, hl with | [_], _ => rfl, okC F si_BadWay (fun cdv A outer s H E hr => pss_one (ps_expr (pe_clsfun rfl mR cf kp FR hr bR .nil passL (pa_cons (pv 0) (pa_cons pe_str pa_nil)))))⟩
abbrev i_Away : Stmt := inClass (top 18) 0
theorem si_Away : FnScope ["self"] ["self"] (defScope i_Away) := ⟨rfl, rfl, rfl, by decide +kernel, rfl, by decide +kernel, by decide +kernel⟩
theorem xc_Away {P : Program} {w : World} {K : PySem.W.Frag} {mg : Str → Option Value} {base : Heap} {f fR C CR : Addr} {fd fdR : FuncData} (F : FunD K "__init__" "Away.__init__" (defArgs i_Away) (defBody i_Away) (defScope i_Away) [] [] f fd) (e : EC K mg "Away" C f) (FR : FnOk P w K mg base (L2.CX P w) 1 fR fdR ["self", "word"] (spR K)) (bR : Binds K fdR ["self", "word"] []) (mR : mg "RoundError" = some (.ref CR)) (cf : CF K CR "__init__" fR) (kp : PySem.W.keepIn K (.ref fR) = true) : Xc P w K mg base "Away" "away" :=
  ⟨C, f, fd, e, FunD.bindsN (ps := ["self"]) F fun _ _ _ _ _ _ us hl => match us, hl with | [_], _ => rfl, okC F si_Away (fun cdv A outer s H E hr => pss_one (ps_expr (pe_clsfun rfl mR cf kp FR hr bR .nil passL (pa_cons (pv 0) (pa_cons pe_str pa_nil)))))⟩
abbrev i_NotAway : Stmt := inClass (top 19) 0
theorem si_NotAway : FnScope ["self"] ["self"] (defScope i_NotAway) := ⟨rfl, rfl, rfl, by decide +kernel, rfl, by decide +kernel, by decide +kernel⟩
theorem xc_NotAway {P : Program} {w : World} {K : PySem.W.Frag} {mg : Str → Option Value} {base : Heap} {f fR C CR : Addr} {fd fdR : FuncData} (F : FunD K "__init__" "NotAway.__init__" (defArgs i_NotAway) (defBody i_NotAway) (defScope i_NotAway) [] [] f fd) (e : EC K mg "NotAway" C f) (FR : FnOk P w K mg base (L2.CX P w) 1 fR fdR ["self", "word"] (spR K)) (bR : Binds K fdR ["self", "word"] []) (mR : mg "RoundError" = some (.ref CR)) (cf : CF K CR "__init__" fR) (kp : PySem.W.keepIn K (.ref fR) = true) : Xc P w K mg base "NotAway" "not away" :=
  ⟨C, f, fd, e, FunD.bindsN (ps := ["self"]) F fun _ _ _ _ _ _ us hl => match us, hl with | [_], _ => rfl, okC F si_NotAway (fun cdv A outer s H E hr => pss_one (ps_expr (pe_clsfun rfl mR cf kp FR hr bR .nil passL (pa_cons (pv 0) (pa_cons pe_str pa_nil)))))⟩
abbrev i_Promised : Stmt := inClass (top 20) 0
theorem si_Promised : FnScope ["self"] ["self"] (defScope i_Promised) := ⟨rfl, rfl, rfl, by decide +kernel, rfl, by decide +kernel, by decide +kernel⟩
theorem xc_Promised {P : Program} {w : World} {K : PySem.W.Frag} {mg : Str → Option Value} {base : Heap} {f fR C CR : Addr} {fd fdR : FuncData} (F : FunD K "__init__" "Promised.__init__" (defArgs i_Promised) (defBody i_Promised) (defScope i_Promised) [] [] f fd) (e : EC K mg "Promised" C f) (FR : FnOk P w K mg base (L2.CX P w) 1 fR fdR ["self", "word"] (spR K)) (bR : Binds K fdR ["self", "word"] []) (mR : mg "RoundError" = some (.ref CR)) (cf : CF K CR "__init__" fR) (kp : PySem.W.keepIn K (.ref fR) = true) : Xc P w K mg base "Promised" "promised" :=
  ⟨C, f, fd, e, FunD.bindsN (ps := ["self"]) F fun _ _ _ _ _ _ us hl => match us, hl with | [_], _ => rfl, okC F si_Promised (fun cdv A outer s H E hr => pss_one (ps_expr (pe_clsfun rfl mR cf kp FR hr bR .nil passL (pa_cons (pv 0) (pa_cons pe_str pa_nil)))))⟩
abbrev i_BadSeason : Stmt := inClass (top 21) 0
theorem si_BadSeason : FnScope ["self"] ["self"] (defScope i_BadSeason) := ⟨rfl, rfl, rfl, by decide +kernel, rfl, by decide +kernel, by decide +kernel⟩
theorem xc_BadSeason {P : Program} {w : World} {K : PySem.W.Frag} {mg : Str → Option Value} {base : Heap} {f fR C CR : Addr} {fd fdR : FuncData} (F : FunD K "__init__" "BadSeason.__init__" (defArgs i_BadSeason) (defBody i_BadSeason) (defScope i_BadSeason) [] [] f fd) (e : EC K mg "BadSeason" C f) (FR : FnOk P w K mg base (L2.CX P w) 1 fR fdR ["self", "word"] (spR K)) (bR : Binds K fdR ["self", "word"] []) (mR : mg "RoundError" = some (.ref CR)) (cf : CF K CR "__init__" fR) (kp : PySem.W.keepIn K (.ref fR) = true) : Xc P w K mg base "BadSeason" "bad season" :=
  ⟨C, f, fd, e, FunD.bindsN (ps := ["self"]) F fun _ _ _ _ _ _ us hl => match us, hl with | [_], _ => rfl, okC F si_BadSeason (fun cdv A outer s H E hr => pss_one (ps_expr (pe_clsfun rfl mR cf kp FR hr bR .nil passL (pa_cons (pv 0) (pa_cons pe_str pa_nil)))))⟩
abbrev i_NoGift : Stmt := inClass (top 22) 0
theorem si_NoGift : FnScope ["self"] ["self"] (defScope i_NoGift) := ⟨rfl, rfl, rfl, by decide +kernel, rfl, by decide +kernel, by decide +kernel⟩
theorem xc_NoGift {P : Program} {w : World} {K : PySem.W.Frag} {mg : Str → Option Value} {base : Heap} {f fR C CR : Addr} {fd fdR : FuncData} (F : FunD K "__init__" "NoGift.__init__" (defArgs i_NoGift) (defBody i_NoGift) (defScope i_NoGift) [] [] f fd) (e : EC K mg "NoGift" C f) (FR : FnOk P w K mg base (L2.CX P w) 1 fR fdR ["self", "word"] (spR K)) (bR : Binds K fdR ["self", "word"] []) (mR : mg "RoundError" = some (.ref CR)) (cf : CF K CR "__init__" fR) (kp : PySem.W.keepIn K (.ref fR) = true) : Xc P w K mg base "NoGift" "no gift" :=
  ⟨C, f, fd, e, FunD.bindsN (ps := ["self"]) F fun _ _ _ _ _ _ us hl => match us, hl with | [_], _ => rfl, okC F si_NoGift (fun cdv A outer s H E hr => pss_one (ps_expr (pe_clsfun rfl mR cf kp FR hr bR .nil passL (pa_cons (pv 0) (pa_cons pe_str pa_nil)))))⟩
def D_i_RoundError : He.DefD := ⟨("RoundError", some "__init__"), "__init__", "RoundError.__init__", defArgs i_RoundError, defBody i_RoundError, defScope i_RoundError, [], []⟩
def D_i_BadRing : He.DefD := ⟨("BadRing", some "__init__"), "__init__", "BadRing.__init__", defArgs i_BadRing, defBody i_BadRing, defScope i_BadRing, [], []⟩
def D_i_BadName : He.DefD := ⟨("BadName", some "__init__"), "__init__", "BadName.__init__", defArgs i_BadName, defBody i_BadName, defScope i_BadName, [], []⟩
def D_i_Taken : He.DefD := ⟨("Taken", some "__init__"), "__init__", "Taken.__init__", defArgs i_Taken, defBody i_Taken, defScope i_Taken, [], []⟩
def D_i_NoIsland : He.DefD := ⟨("NoIsland", some "__init__"), "__init__", "NoIsland.__init__", defArgs i_NoIsland, defBody i_NoIsland, defScope i_NoIsland, [], []⟩
def D_i_NoPerson : He.DefD := ⟨("NoPerson", some "__init__"), "__init__", "NoPerson.__init__", defArgs i_NoPerson, defBody i_NoPerson, defScope i_NoPerson, [], []⟩
def D_i_NotNeighbours : He.DefD := ⟨("NotNeighbours", some "__init__"), "__init__", "NotNeighbours.__init__", defArgs i_NotNeighbours, defBody i_NotNeighbours, defScope i_NotNeighbours, [], []⟩
def D_i_Twice : He.DefD := ⟨("Twice", some "__init__"), "__init__", "Twice.__init__", defArgs i_Twice, defBody i_Twice, defScope i_Twice, [], []⟩
def D_i_NotPartners : He.DefD := ⟨("NotPartners", some "__init__"), "__init__", "NotPartners.__init__", defArgs i_NotPartners, defBody i_NotPartners, defScope i_NotPartners, [], []⟩
def D_i_Owing : He.DefD := ⟨("Owing", some "__init__"), "__init__", "Owing.__init__", defArgs i_Owing, defBody i_Owing, defScope i_Owing, [], []⟩
def D_i_BadKind : He.DefD := ⟨("BadKind", some "__init__"), "__init__", "BadKind.__init__", defArgs i_BadKind, defBody i_BadKind, defScope i_BadKind, [], []⟩
def D_i_BadRank : He.DefD := ⟨("BadRank", some "__init__"), "__init__", "BadRank.__init__", defArgs i_BadRank, defBody i_BadRank, defScope i_BadRank, [], []⟩
def D_i_NoThing : He.DefD := ⟨("NoThing", some "__init__"), "__init__", "NoThing.__init__", defArgs i_NoThing, defBody i_NoThing, defScope i_NoThing, [], []⟩
def D_i_WrongWay : He.DefD := ⟨("WrongWay", some "__init__"), "__init__", "WrongWay.__init__", defArgs i_WrongWay, defBody i_WrongWay, defScope i_WrongWay, [], []⟩
def D_i_NoFleet : He.DefD := ⟨("NoFleet", some "__init__"), "__init__", "NoFleet.__init__", defArgs i_NoFleet, defBody i_NoFleet, defScope i_NoFleet, [], []⟩
def D_i_BadWay : He.DefD := ⟨("BadWay", some "__init__"), "__init__", "BadWay.__init__", defArgs i_BadWay, defBody i_BadWay, defScope i_BadWay, [], []⟩
def D_i_Away : He.DefD := ⟨("Away", some "__init__"), "__init__", "Away.__init__", defArgs i_Away, defBody i_Away, defScope i_Away, [], []⟩
def D_i_NotAway : He.DefD := ⟨("NotAway", some "__init__"), "__init__", "NotAway.__init__", defArgs i_NotAway, defBody i_NotAway, defScope i_NotAway, [], []⟩
def D_i_Promised : He.DefD := ⟨("Promised", some "__init__"), "__init__", "Promised.__init__", defArgs i_Promised, defBody i_Promised, defScope i_Promised, [], []⟩
def D_i_BadSeason : He.DefD := ⟨("BadSeason", some "__init__"), "__init__", "BadSeason.__init__", defArgs i_BadSeason, defBody i_BadSeason, defScope i_BadSeason, [], []⟩
def D_i_NoGift : He.DefD := ⟨("NoGift", some "__init__"), "__init__", "NoGift.__init__", defArgs i_NoGift, defBody i_NoGift, defScope i_NoGift, [], []⟩
def D_look_ring : He.DefD := ⟨("look_ring", none), "look_ring", "look_ring", defArgs s_look_ring, defBody s_look_ring, defScope s_look_ring, [], []⟩
def D_look_island : He.DefD := ⟨("look_island", none), "look_island", "look_island", defArgs s_look_island, defBody s_look_island, defScope s_look_island, [], []⟩
def D_onward : He.DefD := ⟨("onward", none), "onward", "onward", defArgs s_onward, defBody s_onward, defScope s_onward, [], []⟩
def D_House_lies_at : He.DefD := ⟨("House", some "lies_at"), "lies_at", "House.lies_at", defArgs s_House_lies_at, defBody s_House_lies_at, defScope s_House_lies_at, [], []⟩
def D_fleets : He.DefD := ⟨("fleets", none), "fleets", "fleets", defArgs s_fleets, defBody s_fleets, defScope s_fleets, [], []⟩
def D__law_cell : He.DefD := ⟨("_law_cell", none), "_law_cell", "_law_cell", defArgs s__law_cell, defBody s__law_cell, defScope s__law_cell, [], []⟩
def D__law_draws : He.DefD := ⟨("_law_draws", none), "_law_draws", "_law_draws", defArgs s__law_draws, defBody s__law_draws, defScope s__law_draws, [], []⟩
def D__law_same : He.DefD := ⟨("_law_same", none), "_law_same", "_law_same", defArgs s__law_same, defBody s__law_same, defScope s__law_same, [], []⟩
def D__law_start : He.DefD := ⟨("_law_start", none), "_law_start", "_law_start", defArgs s__law_start, defBody s__law_start, defScope s__law_start, [], []⟩
def D__law_lies : He.DefD := ⟨("_law_lies", none), "_law_lies", "_law_lies", defArgs s__law_lies, defBody s__law_lies, defScope s__law_lies, [], []⟩
def D__law_next : He.DefD := ⟨("_law_next", none), "_law_next", "_law_next", defArgs s__law_next, defBody s__law_next, defScope s__law_next, [], []⟩
def D_House_stand : He.DefD := ⟨("House", some "stand"), "stand", "House.stand", defArgs s_House_stand, defBody s_House_stand, defScope s_House_stand, [], []⟩
def D_House_mark : He.DefD := ⟨("House", some "mark"), "mark", "House.mark", defArgs s_House_mark, defBody s_House_mark, defScope s_House_mark, [], []⟩
def D_House_look_island : He.DefD := ⟨("House", some "look_island"), "look_island", "House.look_island", defArgs s_House_look_island, defBody s_House_look_island, defScope s_House_look_island, [], []⟩
def D_House_home : He.DefD := ⟨("House", some "home"), "home", "House.home", defArgs s_House_home, defBody s_House_home, defScope s_House_home, [], []⟩
def D_House_sail : He.DefD := ⟨("House", some "sail"), "sail", "House.sail", defArgs s_House_sail, defBody s_House_sail, defScope s_House_sail, [], []⟩
def D__law_do : He.DefD := ⟨("_law_do", none), "_law_do", "_law_do", defArgs s__law_do, defBody s__law_do, defScope s__law_do, [], []⟩
def D__law_islands : He.DefD := ⟨("_law_islands", none), "_law_islands", "_law_islands", defArgs s__law_islands, defBody s__law_islands, defScope s__law_islands, [], []⟩
def D__law_asked : He.DefD := ⟨("_law_asked", none), "_law_asked", "_law_asked", defArgs s__law_asked, defBody s__law_asked, defScope s__law_asked, [], []⟩
def D__law_sea_word : He.DefD := ⟨("_law_sea_word", none), "_law_sea_word", "_law_sea_word", defArgs s__law_sea_word, defBody s__law_sea_word, defScope s__law_sea_word, [], []⟩
def D_House___init__ : He.DefD := ⟨("House", some "__init__"), "__init__", "House.__init__", defArgs s_House___init__, defBody s_House___init__, defScope s_House___init__, [], []⟩
def D_law : He.DefD := ⟨("law", none), "law", "law", defArgs s_law, defBody s_law, defScope s_law, [], []⟩
def fn : List He.DefD := [D_i_RoundError, D_i_BadRing, D_i_BadName, D_i_Taken, D_i_NoIsland, D_i_NoPerson, D_i_NotNeighbours, D_i_Twice, D_i_NotPartners, D_i_Owing, D_i_BadKind, D_i_BadRank, D_i_NoThing, D_i_WrongWay, D_i_NoFleet, D_i_BadWay, D_i_Away, D_i_NotAway, D_i_Promised, D_i_BadSeason, D_i_NoGift, D_look_ring, D_look_island, D_onward, D_House_lies_at, D_fleets, D__law_cell, D__law_draws, D__law_same, D__law_start, D__law_lies, D__law_next, D_House_stand, D_House_mark, D_House_look_island, D_House_home, D_House_sail, D__law_do, D__law_islands, D__law_asked, D__law_sea_word, D_House___init__, D_law]
def fa : List He.Fa := [.glo "look_ring", .glo "look_island", .glo "onward", .glo "fleets", .glo "_law_cell", .glo "_law_draws", .glo "_law_same", .glo "_law_start", .glo "_law_lies", .glo "_law_next", .glo "_law_do", .glo "_law_islands", .glo "_law_asked", .glo "_law_sea_word", .glo "law", .glo "House", .cls "House", .meth "House" "lies_at", .meth "House" "stand", .meth "House" "mark", .meth "House" "look_island", .meth "House" "home", .meth "House" "sail", .mkr "House", .noat "House" "done", .noat "House" "fleets", .noat "House" "friends", .noat "House" "goods", .noat "House" "homes", .noat "House" "islands", .noat "House" "later", .noat "House" "now", .noat "House" "past", .noat "House" "pledges", .noat "House" "record", .glo "RoundError", .glo "BadRing", .glo "BadName", .glo "Taken", .glo "NoIsland", .glo "NoPerson", .glo "NotNeighbours", .glo "Twice", .glo "NotPartners", .glo "Owing", .glo "BadKind", .glo "BadRank", .glo "NoThing", .glo "WrongWay", .glo "NoFleet", .glo "BadWay", .glo "Away", .glo "NotAway", .glo "Promised", .glo "BadSeason", .glo "NoGift", .free "abs", .free "all", .free "bool", .free "dict", .free "int", .free "isinstance", .free "len", .free "list", .free "range", .free "sorted", .free "str", .free "tuple", .int "FEWEST" 3, .int "MOST" 20, .glo "WAYS"]
def tabs : List He.Tab := []
def exL (K : PySem.W.Frag) : List Bool := [(cfB K "RoundError" "__init__"), (excs.all fun c => (ecL K c).all id), (excs.all fun c => eqB (PySem.W.kitOne K (.ref (He.ga K c)) (.ref (He.ga K "Away"))) (some (isC_Away c))), (excs.all fun c => eqB (PySem.W.kitOne K (.ref (He.ga K c)) (.ref (He.ga K "BadWay"))) (some (isC_BadWay c))), (excs.all fun c => eqB (PySem.W.kitOne K (.ref (He.ga K c)) (.ref (He.ga K "NoIsland"))) (some (isC_NoIsland c))), (excs.all fun c => eqB (PySem.W.kitOne K (.ref (He.ga K c)) (.ref (He.ga K "NotAway"))) (some (isC_NotAway c))), (excs.all fun c => eqB (PySem.W.exmOne K (.ref (He.ga K c)) (.ref (He.ga K "RoundError"))) (some true)), (ctB K "WAYS" ["forward", "backward"])]
def ex (K : PySem.W.Frag) : Bool := (exL K).all id
abbrev R : PySem.W.OpenRow := PySem.W.OpenLaw.row PySem.Challenge.rw_shellround_k11_fleets_out_and_home
abbrev hk : PySem.W.Hook := hookY 4 fa fn tabs ex
def ob (s : PySem.W.SharedT) : AlZ := obsY 4 fa fn tabs ex (HandSHeadRun.getT s)
theorem ob_eq (s : PySem.W.SharedT) : ob s = hk.obs s.abs := obsY_eq (HandSHeadRun.getT_eq s)
def loose0 : List Str := ["_wall", "__name__", "RoundError", "BadRing", "BadName", "Taken", "NoIsland", "NoPerson", "NotNeighbours", "Twice", "NotPartners", "Owing", "BadKind", "BadRank", "NoThing", "WrongWay", "NoFleet", "BadWay", "Away", "NotAway", "Promised", "BadSeason", "NoGift", "LETTERS", "SIGNS", "LONGEST", "KINDS", "WAYS", "HIGHEST", "is_name"]
def loose1 : List Str := ["is_rank", "FEWEST", "MOST", "look_ring", "look_island", "onward", "ahead_of", "rounds_in", "Good", "rank_of", "goes_ahead", "Pairing", "House", "fleets", "_law_cell", "_law_draws", "_law_same", "_law_start", "_law_rank", "_law_lies", "_law_pledge", "_law_given", "_law_ended", "_law_next", "_law_do", "_law_islands", "_law_asked", "_law_sea_word"]
def loose : List Str := loose0 ++ loose1
theorem run (w : World) : HandSHeadRun.RunEq R (PySem.W.view R.prog [65]) hk ob 12000 loose w := by
  intro os
  kernel_rfl
theorem facts {P : Program} {w : World} {K : PySem.W.Frag} {h : Heap} {mg : Str → Option Value} {f : Addr} (X : K.In h) (G : h.Ns mainGlobals mg) (hfa : mg ("law" : Str) = some (.ref f)) (c : SaysZ fa fn tabs ex w K) :
    ∃ fd : FuncData, (∀ (s : Shared) (v : Value), BindsTo s fd ⟨[v], []⟩ [("_law_script", v)]) ∧ ∀ base : Heap, K.In base → base.Ns mainGlobals mg → FnOk P w K mg base L2.CX0 9 f fd ["_law_script"] (spLaw K) := by
  have cd := c.t.d
  obtain ⟨fd_i_RoundError, F_i_RoundError⟩ := cd.def_ 0 (d := D_i_RoundError) rfl
  obtain ⟨fd_i_BadRing, F_i_BadRing⟩ := cd.def_ 1 (d := D_i_BadRing) rfl
  obtain ⟨fd_i_BadName, F_i_BadName⟩ := cd.def_ 2 (d := D_i_BadName) rfl
  obtain ⟨fd_i_Taken, F_i_Taken⟩ := cd.def_ 3 (d := D_i_Taken) rfl
  obtain ⟨fd_i_NoIsland, F_i_NoIsland⟩ := cd.def_ 4 (d := D_i_NoIsland) rfl
  obtain ⟨fd_i_NoPerson, F_i_NoPerson⟩ := cd.def_ 5 (d := D_i_NoPerson) rfl
  obtain ⟨fd_i_NotNeighbours, F_i_NotNeighbours⟩ := cd.def_ 6 (d := D_i_NotNeighbours) rfl
  obtain ⟨fd_i_Twice, F_i_Twice⟩ := cd.def_ 7 (d := D_i_Twice) rfl
  obtain ⟨fd_i_NotPartners, F_i_NotPartners⟩ := cd.def_ 8 (d := D_i_NotPartners) rfl
  obtain ⟨fd_i_Owing, F_i_Owing⟩ := cd.def_ 9 (d := D_i_Owing) rfl
  obtain ⟨fd_i_BadKind, F_i_BadKind⟩ := cd.def_ 10 (d := D_i_BadKind) rfl
  obtain ⟨fd_i_BadRank, F_i_BadRank⟩ := cd.def_ 11 (d := D_i_BadRank) rfl
  obtain ⟨fd_i_NoThing, F_i_NoThing⟩ := cd.def_ 12 (d := D_i_NoThing) rfl
  obtain ⟨fd_i_WrongWay, F_i_WrongWay⟩ := cd.def_ 13 (d := D_i_WrongWay) rfl
  obtain ⟨fd_i_NoFleet, F_i_NoFleet⟩ := cd.def_ 14 (d := D_i_NoFleet) rfl
  obtain ⟨fd_i_BadWay, F_i_BadWay⟩ := cd.def_ 15 (d := D_i_BadWay) rfl
  obtain ⟨fd_i_Away, F_i_Away⟩ := cd.def_ 16 (d := D_i_Away) rfl
  obtain ⟨fd_i_NotAway, F_i_NotAway⟩ := cd.def_ 17 (d := D_i_NotAway) rfl
  obtain ⟨fd_i_Promised, F_i_Promised⟩ := cd.def_ 18 (d := D_i_Promised) rfl
  obtain ⟨fd_i_BadSeason, F_i_BadSeason⟩ := cd.def_ 19 (d := D_i_BadSeason) rfl
  obtain ⟨fd_i_NoGift, F_i_NoGift⟩ := cd.def_ 20 (d := D_i_NoGift) rfl
  obtain ⟨fd_look_ring, F_look_ring⟩ := cd.def_ 21 (d := D_look_ring) rfl
  obtain ⟨fd_look_island, F_look_island⟩ := cd.def_ 22 (d := D_look_island) rfl
  obtain ⟨fd_onward, F_onward⟩ := cd.def_ 23 (d := D_onward) rfl
  obtain ⟨fd_House_lies_at, F_House_lies_at⟩ := cd.def_ 24 (d := D_House_lies_at) rfl
  obtain ⟨fd_fleets, F_fleets⟩ := cd.def_ 25 (d := D_fleets) rfl
  obtain ⟨fd__law_cell, F__law_cell⟩ := cd.def_ 26 (d := D__law_cell) rfl
  obtain ⟨fd__law_draws, F__law_draws⟩ := cd.def_ 27 (d := D__law_draws) rfl
  obtain ⟨fd__law_same, F__law_same⟩ := cd.def_ 28 (d := D__law_same) rfl
  obtain ⟨fd__law_start, F__law_start⟩ := cd.def_ 29 (d := D__law_start) rfl
  obtain ⟨fd__law_lies, F__law_lies⟩ := cd.def_ 30 (d := D__law_lies) rfl
  obtain ⟨fd__law_next, F__law_next⟩ := cd.def_ 31 (d := D__law_next) rfl
  obtain ⟨fd_House_stand, F_House_stand⟩ := cd.def_ 32 (d := D_House_stand) rfl
  obtain ⟨fd_House_mark, F_House_mark⟩ := cd.def_ 33 (d := D_House_mark) rfl
  obtain ⟨fd_House_look_island, F_House_look_island⟩ := cd.def_ 34 (d := D_House_look_island) rfl
  obtain ⟨fd_House_home, F_House_home⟩ := cd.def_ 35 (d := D_House_home) rfl
  obtain ⟨fd_House_sail, F_House_sail⟩ := cd.def_ 36 (d := D_House_sail) rfl
  obtain ⟨fd__law_do, F__law_do⟩ := cd.def_ 37 (d := D__law_do) rfl
  obtain ⟨fd__law_islands, F__law_islands⟩ := cd.def_ 38 (d := D__law_islands) rfl
  obtain ⟨fd__law_asked, F__law_asked⟩ := cd.def_ 39 (d := D__law_asked) rfl
  obtain ⟨fd__law_sea_word, F__law_sea_word⟩ := cd.def_ 40 (d := D__law_sea_word) rfl
  obtain ⟨fd_House___init__, F_House___init__⟩ := cd.def_ 41 (d := D_House___init__) rfl
  obtain ⟨fd_law, F_law⟩ := cd.def_ 42 (d := D_law) rfl
  have g_look_ring := He.glo_ok X G (cd.fact 0 (f := .glo "look_ring") rfl)
  have g_look_island := He.glo_ok X G (cd.fact 1 (f := .glo "look_island") rfl)
  have g_onward := He.glo_ok X G (cd.fact 2 (f := .glo "onward") rfl)
  have g_fleets := He.glo_ok X G (cd.fact 3 (f := .glo "fleets") rfl)
  have g__law_cell := He.glo_ok X G (cd.fact 4 (f := .glo "_law_cell") rfl)
  have g__law_draws := He.glo_ok X G (cd.fact 5 (f := .glo "_law_draws") rfl)
  have g__law_same := He.glo_ok X G (cd.fact 6 (f := .glo "_law_same") rfl)
  have g__law_start := He.glo_ok X G (cd.fact 7 (f := .glo "_law_start") rfl)
  have g__law_lies := He.glo_ok X G (cd.fact 8 (f := .glo "_law_lies") rfl)
  have g__law_next := He.glo_ok X G (cd.fact 9 (f := .glo "_law_next") rfl)
  have g__law_do := He.glo_ok X G (cd.fact 10 (f := .glo "_law_do") rfl)
  have g__law_islands := He.glo_ok X G (cd.fact 11 (f := .glo "_law_islands") rfl)
  have g__law_asked := He.glo_ok X G (cd.fact 12 (f := .glo "_law_asked") rfl)
  have g__law_sea_word := He.glo_ok X G (cd.fact 13 (f := .glo "_law_sea_word") rfl)
  have g_law := He.glo_ok X G (cd.fact 14 (f := .glo "law") rfl)
  have g_House := He.glo_ok X G (cd.fact 15 (f := .glo "House") rfl)
  have cl_House := He.cls_ok (cd.fact 16 (f := .cls "House") rfl)
  have mt_House_lies_at := He.meth_ok (cd.fact 17 (f := .meth "House" "lies_at") rfl)
  have mt_House_stand := He.meth_ok (cd.fact 18 (f := .meth "House" "stand") rfl)
  have mt_House_mark := He.meth_ok (cd.fact 19 (f := .meth "House" "mark") rfl)
  have mt_House_look_island := He.meth_ok (cd.fact 20 (f := .meth "House" "look_island") rfl)
  have mt_House_home := He.meth_ok (cd.fact 21 (f := .meth "House" "home") rfl)
  have mt_House_sail := He.meth_ok (cd.fact 22 (f := .meth "House" "sail") rfl)
  have mk_House := He.mkr_ok (cd.fact 23 (f := .mkr "House") rfl)
  have na_House_done := He.noat_ok (cd.fact 24 (f := .noat "House" "done") rfl)
  have na_House_fleets := He.noat_ok (cd.fact 25 (f := .noat "House" "fleets") rfl)
  have na_House_friends := He.noat_ok (cd.fact 26 (f := .noat "House" "friends") rfl)
  have na_House_goods := He.noat_ok (cd.fact 27 (f := .noat "House" "goods") rfl)
  have na_House_homes := He.noat_ok (cd.fact 28 (f := .noat "House" "homes") rfl)
  have na_House_islands := He.noat_ok (cd.fact 29 (f := .noat "House" "islands") rfl)
  have na_House_later := He.noat_ok (cd.fact 30 (f := .noat "House" "later") rfl)
  have na_House_now := He.noat_ok (cd.fact 31 (f := .noat "House" "now") rfl)
  have na_House_past := He.noat_ok (cd.fact 32 (f := .noat "House" "past") rfl)
  have na_House_pledges := He.noat_ok (cd.fact 33 (f := .noat "House" "pledges") rfl)
  have na_House_record := He.noat_ok (cd.fact 34 (f := .noat "House" "record") rfl)
  have g_RoundError := He.glo_ok X G (cd.fact 35 (f := .glo "RoundError") rfl)
  have g_BadRing := He.glo_ok X G (cd.fact 36 (f := .glo "BadRing") rfl)
  have g_BadName := He.glo_ok X G (cd.fact 37 (f := .glo "BadName") rfl)
  have g_Taken := He.glo_ok X G (cd.fact 38 (f := .glo "Taken") rfl)
  have g_NoIsland := He.glo_ok X G (cd.fact 39 (f := .glo "NoIsland") rfl)
  have g_NoPerson := He.glo_ok X G (cd.fact 40 (f := .glo "NoPerson") rfl)
  have g_NotNeighbours := He.glo_ok X G (cd.fact 41 (f := .glo "NotNeighbours") rfl)
  have g_Twice := He.glo_ok X G (cd.fact 42 (f := .glo "Twice") rfl)
  have g_NotPartners := He.glo_ok X G (cd.fact 43 (f := .glo "NotPartners") rfl)
  have g_Owing := He.glo_ok X G (cd.fact 44 (f := .glo "Owing") rfl)
  have g_BadKind := He.glo_ok X G (cd.fact 45 (f := .glo "BadKind") rfl)
  have g_BadRank := He.glo_ok X G (cd.fact 46 (f := .glo "BadRank") rfl)
  have g_NoThing := He.glo_ok X G (cd.fact 47 (f := .glo "NoThing") rfl)
  have g_WrongWay := He.glo_ok X G (cd.fact 48 (f := .glo "WrongWay") rfl)
  have g_NoFleet := He.glo_ok X G (cd.fact 49 (f := .glo "NoFleet") rfl)
  have g_BadWay := He.glo_ok X G (cd.fact 50 (f := .glo "BadWay") rfl)
  have g_Away := He.glo_ok X G (cd.fact 51 (f := .glo "Away") rfl)
  have g_NotAway := He.glo_ok X G (cd.fact 52 (f := .glo "NotAway") rfl)
  have g_Promised := He.glo_ok X G (cd.fact 53 (f := .glo "Promised") rfl)
  have g_BadSeason := He.glo_ok X G (cd.fact 54 (f := .glo "BadSeason") rfl)
  have g_NoGift := He.glo_ok X G (cd.fact 55 (f := .glo "NoGift") rfl)
  have h_abs := He.free_ok X G (cd.fact 56 (f := .free "abs") rfl)
  have h_all := He.free_ok X G (cd.fact 57 (f := .free "all") rfl)
  have h_bool := He.free_ok X G (cd.fact 58 (f := .free "bool") rfl)
  have h_dict := He.free_ok X G (cd.fact 59 (f := .free "dict") rfl)
  have h_int := He.free_ok X G (cd.fact 60 (f := .free "int") rfl)
  have h_isinstance := He.free_ok X G (cd.fact 61 (f := .free "isinstance") rfl)
  have h_len := He.free_ok X G (cd.fact 62 (f := .free "len") rfl)
  have h_list := He.free_ok X G (cd.fact 63 (f := .free "list") rfl)
  have h_range := He.free_ok X G (cd.fact 64 (f := .free "range") rfl)
  have h_sorted := He.free_ok X G (cd.fact 65 (f := .free "sorted") rfl)
  have h_str := He.free_ok X G (cd.fact 66 (f := .free "str") rfl)
  have h_tuple := He.free_ok X G (cd.fact 67 (f := .free "tuple") rfl)
  have h_FEWEST := He.int_ok X G (cd.fact 68 (f := .int "FEWEST" 3) rfl)
  have h_MOST := He.int_ok X G (cd.fact 69 (f := .int "MOST" 20) rfl)
  have g_WAYS := He.glo_ok X G (cd.fact 70 (f := .glo "WAYS") rfl)
  have e0 : cfB K "RoundError" "__init__" = true := all_at c.more 0 rfl
  have e1 : (excs.all fun c => (ecL K c).all id) = true := all_at c.more 1 rfl
  have cf := cfB_ok e0
  have ec : ∀ x ∈ excs, EC K mg x (He.ga K x) (He.ma K (He.ga K x) "__init__") := fun x hx => ecL_ok X G (List.all_eq_true.mp e1 x hx)
  have xw : ∀ x ∈ excs, ∀ C, mg x = some (.ref C) → XfC K C ∧ PySem.W.findIn K (.ref C) "word" = some none := fun x hx C hC => by
    have e := ec x hx
    cases (e.mg.symm.trans hC)
    exact ⟨e.xf, e.no⟩
  have e2 : (excs.all fun c => eqB (PySem.W.kitOne K (.ref (He.ga K c)) (.ref (He.ga K "Away"))) (some (isC_Away c))) = true := all_at c.more 2 rfl
  have xi_Away : mg "Away" = some (.ref (He.ga K "Away")) ∧ ∀ x ∈ excs, ∀ C, mg x = some (.ref C) → ExcC K C ∧ PySem.W.kitOne K (.ref C) (.ref (He.ga K "Away")) = some (isC_Away x) := ⟨g_Away, fun x hx C hC => by
    have e := ec x hx
    cases (e.mg.symm.trans hC)
    exact ⟨e.xc, of_decide_eq_true (List.all_eq_true.mp e2 x hx)⟩⟩
  have e3 : (excs.all fun c => eqB (PySem.W.kitOne K (.ref (He.ga K c)) (.ref (He.ga K "BadWay"))) (some (isC_BadWay c))) = true := all_at c.more 3 rfl
  have xi_BadWay : mg "BadWay" = some (.ref (He.ga K "BadWay")) ∧ ∀ x ∈ excs, ∀ C, mg x = some (.ref C) → ExcC K C ∧ PySem.W.kitOne K (.ref C) (.ref (He.ga K "BadWay")) = some (isC_BadWay x) := ⟨g_BadWay, fun x hx C hC => by
    have e := ec x hx
    cases (e.mg.symm.trans hC)
    exact ⟨e.xc, of_decide_eq_true (List.all_eq_true.mp e3 x hx)⟩⟩
  have e4 : (excs.all fun c => eqB (PySem.W.kitOne K (.ref (He.ga K c)) (.ref (He.ga K "NoIsland"))) (some (isC_NoIsland c))) = true := all_at c.more 4 rfl
  have xi_NoIsland : mg "NoIsland" = some (.ref (He.ga K "NoIsland")) ∧ ∀ x ∈ excs, ∀ C, mg x = some (.ref C) → ExcC K C ∧ PySem.W.kitOne K (.ref C) (.ref (He.ga K "NoIsland")) = some (isC_NoIsland x) := ⟨g_NoIsland, fun x hx C hC => by
    have e := ec x hx
    cases (e.mg.symm.trans hC)
    exact ⟨e.xc, of_decide_eq_true (List.all_eq_true.mp e4 x hx)⟩⟩
  have e5 : (excs.all fun c => eqB (PySem.W.kitOne K (.ref (He.ga K c)) (.ref (He.ga K "NotAway"))) (some (isC_NotAway c))) = true := all_at c.more 5 rfl
  have xi_NotAway : mg "NotAway" = some (.ref (He.ga K "NotAway")) ∧ ∀ x ∈ excs, ∀ C, mg x = some (.ref C) → ExcC K C ∧ PySem.W.kitOne K (.ref C) (.ref (He.ga K "NotAway")) = some (isC_NotAway x) := ⟨g_NotAway, fun x hx C hC => by
    have e := ec x hx
    cases (e.mg.symm.trans hC)
    exact ⟨e.xc, of_decide_eq_true (List.all_eq_true.mp e5 x hx)⟩⟩
  have e6 : (excs.all fun c => eqB (PySem.W.exmOne K (.ref (He.ga K c)) (.ref (He.ga K "RoundError"))) (some true)) = true := all_at c.more 6 rfl
  have xm_RoundError : mg "RoundError" = some (.ref (He.ga K "RoundError")) ∧ ∀ x ∈ excs, ∀ C, mg x = some (.ref C) → PySem.W.exmOne K (.ref C) (.ref (He.ga K "RoundError")) = some ((fun _ => true) x) := ⟨g_RoundError, fun x hx C hC => by
    have e := ec x hx
    cases (e.mg.symm.trans hC)
    exact of_decide_eq_true (List.all_eq_true.mp e6 x hx)⟩
  have h_WAYS : Ct K mg "WAYS" ["forward", "backward"] := ctB_ok g_WAYS (all_at c.more 7 rfl)
  have fl_House_done : FldK K mg "House" "done" := fldK_of g_House cl_House na_House_done
  have fl_House_fleets : FldK K mg "House" "fleets" := fldK_of g_House cl_House na_House_fleets
  have fl_House_friends : FldK K mg "House" "friends" := fldK_of g_House cl_House na_House_friends
  have fl_House_goods : FldK K mg "House" "goods" := fldK_of g_House cl_House na_House_goods
  have fl_House_homes : FldK K mg "House" "homes" := fldK_of g_House cl_House na_House_homes
  have fl_House_islands : FldK K mg "House" "islands" := fldK_of g_House cl_House na_House_islands
  have fl_House_later : FldK K mg "House" "later" := fldK_of g_House cl_House na_House_later
  have fl_House_now : FldK K mg "House" "now" := fldK_of g_House cl_House na_House_now
  have fl_House_past : FldK K mg "House" "past" := fldK_of g_House cl_House na_House_past
  have fl_House_pledges : FldK K mg "House" "pledges" := fldK_of g_House cl_House na_House_pledges
  have fl_House_record : FldK K mg "House" "record" := fldK_of g_House cl_House na_House_record
  cases (hfa.symm.trans g_law)
  refine ⟨fd_law, fun s v => FunD.bindsA (ps := ["_law_script"]) F_law (fun _ _ _ _ _ _ us hl => match us, hl with | [_], _ => rfl) s [v] rfl, fun base _ _ => ?_⟩
  have FR : FnOk P w K mg base (L2.CX P w) 1 _ fd_i_RoundError ["self", "word"] (spR K) := okR (q1 := _) F_i_RoundError si_RoundError (by first | exact Or.inl rfl | exact Or.inr (Or.inl rfl)) (by first | exact Or.inl rfl | exact Or.inr (Or.inl rfl))
  have bR : Binds K fd_i_RoundError ["self", "word"] [] := FunD.bindsN F_i_RoundError fun _ _ _ _ _ _ us hl => match us, hl with | [_, _], _ => rfl
  have x_BadRing := xc_BadRing (P := P) (w := w) (base := base) F_i_BadRing (ec "BadRing" (by decide)) FR bR g_RoundError cf F_i_RoundError.kp
  have x_BadName := xc_BadName (P := P) (w := w) (base := base) F_i_BadName (ec "BadName" (by decide)) FR bR g_RoundError cf F_i_RoundError.kp
  have x_Taken := xc_Taken (P := P) (w := w) (base := base) F_i_Taken (ec "Taken" (by decide)) FR bR g_RoundError cf F_i_RoundError.kp
  have x_NoIsland := xc_NoIsland (P := P) (w := w) (base := base) F_i_NoIsland (ec "NoIsland" (by decide)) FR bR g_RoundError cf F_i_RoundError.kp
  have x_NoPerson := xc_NoPerson (P := P) (w := w) (base := base) F_i_NoPerson (ec "NoPerson" (by decide)) FR bR g_RoundError cf F_i_RoundError.kp
  have x_NotNeighbours := xc_NotNeighbours (P := P) (w := w) (base := base) F_i_NotNeighbours (ec "NotNeighbours" (by decide)) FR bR g_RoundError cf F_i_RoundError.kp
  have x_Twice := xc_Twice (P := P) (w := w) (base := base) F_i_Twice (ec "Twice" (by decide)) FR bR g_RoundError cf F_i_RoundError.kp
  have x_NotPartners := xc_NotPartners (P := P) (w := w) (base := base) F_i_NotPartners (ec "NotPartners" (by decide)) FR bR g_RoundError cf F_i_RoundError.kp
  have x_Owing := xc_Owing (P := P) (w := w) (base := base) F_i_Owing (ec "Owing" (by decide)) FR bR g_RoundError cf F_i_RoundError.kp
  have x_BadKind := xc_BadKind (P := P) (w := w) (base := base) F_i_BadKind (ec "BadKind" (by decide)) FR bR g_RoundError cf F_i_RoundError.kp
  have x_BadRank := xc_BadRank (P := P) (w := w) (base := base) F_i_BadRank (ec "BadRank" (by decide)) FR bR g_RoundError cf F_i_RoundError.kp
  have x_NoThing := xc_NoThing (P := P) (w := w) (base := base) F_i_NoThing (ec "NoThing" (by decide)) FR bR g_RoundError cf F_i_RoundError.kp
  have x_WrongWay := xc_WrongWay (P := P) (w := w) (base := base) F_i_WrongWay (ec "WrongWay" (by decide)) FR bR g_RoundError cf F_i_RoundError.kp
  have x_NoFleet := xc_NoFleet (P := P) (w := w) (base := base) F_i_NoFleet (ec "NoFleet" (by decide)) FR bR g_RoundError cf F_i_RoundError.kp
  have x_BadWay := xc_BadWay (P := P) (w := w) (base := base) F_i_BadWay (ec "BadWay" (by decide)) FR bR g_RoundError cf F_i_RoundError.kp
  have x_Away := xc_Away (P := P) (w := w) (base := base) F_i_Away (ec "Away" (by decide)) FR bR g_RoundError cf F_i_RoundError.kp
  have x_NotAway := xc_NotAway (P := P) (w := w) (base := base) F_i_NotAway (ec "NotAway" (by decide)) FR bR g_RoundError cf F_i_RoundError.kp
  have x_Promised := xc_Promised (P := P) (w := w) (base := base) F_i_Promised (ec "Promised" (by decide)) FR bR g_RoundError cf F_i_RoundError.kp
  have x_BadSeason := xc_BadSeason (P := P) (w := w) (base := base) F_i_BadSeason (ec "BadSeason" (by decide)) FR bR g_RoundError cf F_i_RoundError.kp
  have x_NoGift := xc_NoGift (P := P) (w := w) (base := base) F_i_NoGift (ec "NoGift" (by decide)) FR bR g_RoundError cf F_i_RoundError.kp
  have c_look_ring := ok_look_ring (P := P) (w := w) (base := base) F_look_ring g_look_ring h_FEWEST h_MOST x_BadRing
  have c_look_island := ok_look_island (P := P) (w := w) (base := base) F_look_island g_look_island c_look_ring x_NoIsland
  have c_onward := ok_onward (P := P) (w := w) (base := base) F_onward g_onward c_look_island
  have c_House_lies_at := ok_House_lies_at (P := P) (w := w) (base := base) F_House_lies_at g_House cl_House mt_House_lies_at h_WAYS fl_House_fleets fl_House_islands c_onward
  have c_fleets := ok_fleets (P := P) (w := w) (base := base) F_fleets g_fleets h_sorted fl_House_fleets c_House_lies_at
  have c__law_cell := ok__law_cell (P := P) (w := w) (base := base) F__law_cell g__law_cell h_len
  have c__law_draws := ok__law_draws (P := P) (w := w) (base := base) F__law_draws g__law_draws h_abs
  have c__law_same := ok__law_same (P := P) (w := w) (base := base) F__law_same g__law_same h_all h_bool h_int h_isinstance h_len h_list h_range h_str h_tuple 4
  have c__law_start := ok__law_start (P := P) (w := w) (base := base) F__law_start g__law_start 
  have c__law_lies := ok__law_lies (P := P) (w := w) (base := base) F__law_lies g__law_lies 
  have c__law_next := ok__law_next (P := P) (w := w) (base := base) F__law_next g__law_next h_dict
  have c_House_stand := ok_House_stand (P := P) (w := w) (base := base) F_House_stand g_House cl_House mt_House_stand h_dict h_list fl_House_fleets fl_House_friends fl_House_goods fl_House_homes fl_House_now fl_House_pledges fl_House_record
  have c_House_mark := ok_House_mark (P := P) (w := w) (base := base) F_House_mark g_House cl_House mt_House_mark fl_House_done fl_House_later fl_House_past c_House_stand
  have c_House_look_island := ok_House_look_island (P := P) (w := w) (base := base) F_House_look_island g_House cl_House mt_House_look_island fl_House_islands x_NoIsland
  have c_House_home := ok_House_home (P := P) (w := w) (base := base) F_House_home g_House cl_House mt_House_home fl_House_fleets c_House_look_island c_House_mark x_NotAway
  have c_House_sail := ok_House_sail (P := P) (w := w) (base := base) F_House_sail g_House cl_House mt_House_sail h_WAYS fl_House_fleets c_House_look_island c_House_mark x_Away x_BadWay
  have c__law_do := ok__law_do (P := P) (w := w) (base := base) F__law_do g__law_do c_House_home c_House_sail
  have c__law_islands := ok__law_islands (P := P) (w := w) (base := base) F__law_islands g__law_islands c__law_draws
  have c__law_asked := ok__law_asked (P := P) (w := w) (base := base) F__law_asked g__law_asked h_isinstance c__law_do xw xi_Away xi_BadWay xi_NoIsland xi_NotAway xm_RoundError
  have c__law_sea_word := ok__law_sea_word (P := P) (w := w) (base := base) F__law_sea_word g__law_sea_word 
  have k_House := ok_House___init__ (P := P) (w := w) (base := base) F_House___init__ g_House mk_House fl_House_done fl_House_fleets fl_House_friends fl_House_goods fl_House_homes fl_House_islands fl_House_later fl_House_now fl_House_past fl_House_pledges fl_House_record c_look_ring
  have c_fleets_N := ok_fleets_N (P := P) (w := w) (base := base) F_fleets g_fleets h_sorted fl_House_fleets c_House_lies_at
  exact law_calm (ok_law F_law h_range h_sorted k_House c__law_asked c__law_cell c__law_draws c__law_islands c__law_lies c__law_next c__law_same c__law_sea_word c__law_start c_fleets c_fleets_N law_true)

end Wk11
end
open PySem PySem.W PySem.Calls PyProof.Rows
set_option maxHeartbeats 0 in
theorem PySem.Challenge.cw_shellround_k11_fleets_out_and_home_holds : PySem.Challenge.rw_shellround_k11_fleets_out_and_home.Holds := by
  w_on; o_law
  refine HandSHeadRun.head_any (r := OpenLaw.row PySem.Challenge.rw_shellround_k11_fleets_out_and_home) (q := view (OpenLaw.row PySem.Challenge.rw_shellround_k11_fleets_out_and_home).prog [65]) (H := Wk11.hk) (ob := Wk11.ob) (M := 12000) (loose := Wk11.loose) (d := HandSHeadRun.topDef (OpenLaw.row PySem.Challenge.rw_shellround_k11_fleets_out_and_home).prog 65) (kwd := []) Wk11.ob_eq
    (by kernel_rfl) (fun s => by kernel_rfl) Wk11.run (by kernel_rfl) (by kernel_rfl) (by kernel_rfl) (by rfl) (by first | assumption | decide +kernel) (by decide +kernel) ⟨rfl, rfl, rfl, rfl, rfl, by decide +kernel⟩ ?hw ?hc
  case hw => w_witness2
  case hc =>
    refine L2.walk_ofE (l := PySem.Challenge.rw_shellround_k11_fleets_out_and_home) (n := 63) (k := 9) (x := "_law_script") (CX := L2.CX0) rfl (by decide) (by kernel_rfl) ⟨rfl, by decide, by decide⟩ ?F (fun _ _ _ _ z => z)
    intro w mg fa h Y G hmg0
    obtain ⟨K, KX, c⟩ := Y
    have hmg : mg ("law" : PySem.Str) = some (.ref fa) := by
      have e : (HandSHeadRun.topDef (OpenLaw.row PySem.Challenge.rw_shellround_k11_fleets_out_and_home).prog 65).name = ("law" : PySem.Str) := by kernel_rfl
      rw [← e]
      exact hmg0
    obtain ⟨fd, hb, hF⟩ := Wk11.facts (P := (PySem.Challenge.rw_shellround_k11_fleets_out_and_home).prog) (w := w) KX G hmg c
    exact ⟨K, fd, DL.spLaw K, KX, hb, fun H a ns hl _ hS => ⟨a, ns, rfl, hl, hS, fun _ => rfl⟩, hF⟩


