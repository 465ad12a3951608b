import PyProof.Rows.All
import Wide.All
import OpenK.AllK
import Wide.FinOn
import HandS.ForMost
import HandS.ForExc
import HandS.CallSlots
import HandS.ExcInit
import HandS.ExcField
import HandS.FStr
import HandS.Gcd
import HandS.Wide
import HandS.Zip
import HandS.IsInst
import HandS.Codes
import HandS.Strs
import HandS.Defaults
import HandS.MakeKwOnly
import HandS.TupAny
import HandS.Flow
import HandS.More
import KE.KStateDown
import HandS.HeadHook4
import HandS.HeadEnd
import HandS.Head2
import HandS.HeadWalk
import PySem.Challenge.RW_marketscleared_k93_objects_keep_copies
set_option Elab.async false
set_option linter.all false
set_option maxRecDepth 100000
set_option maxHeartbeats 4000000
/-! M0: plain data, data that may still change, and how both stand in the heap. -/
namespace Ml
open PySem L2

/-- data that nobody changes any more; ins: an instance of the class numbered c, its fields' names and values; fn: a def by its number -/
inductive D where
  | non | bl (b : Bool) | int (i : Int) | str (s : Str)
  | lst (xs : List D) | tup (xs : List D)
  | ins (c : Nat) (ns : List Nat) (xs : List D)
  | fn (f : Nat)
/-- data that its one owner may change -/
inductive O where
  | fz (d : D)
  | lst (os : List O)
  | ins (c : Nat) (ns : List Nat) (os : List O)

/-- where classes and defs stand -/
structure Tb where
  cls : Nat → Addr
  fn : Nat → Addr
  xn : Nat → List Str
  nm : Nat → Str
  nl : Nat

section
variable (K : PySem.W.Frag) (T : Tb)
mutual
def Rep (H : Hp) : D → V → Prop
  | .non, v => v = .non
  | .bl b, v => v = .bl b
  | .int i, v => v = .int i
  | .str s, v => v = .str s
  | .lst ds, v => ∃ a xs, v = .ref a ∧ Rd H a (.lst xs) ∧ Reps H ds xs
  | .tup ds, v => ∃ a xs, v = .ref a ∧ SqT K H a xs ∧ Reps H ds xs
  | .ins c ns ds, v => ∃ a dx fs, v = .ref a ∧ H a = some (.ins (T.cls c) dx fs) ∧ fs.map (·.1) = ns.map T.nm ∧ (∀ n ∈ ns, n < T.nl) ∧ Reps H ds (fs.map (·.2))
  | .fn f, v => v = .ref (T.fn f)
def Reps (H : Hp) : List D → List V → Prop
  | [], vs => vs = []
  | d :: ds, vs => ∃ v r, vs = v :: r ∧ Rep H d v ∧ Reps H ds r
end
mutual
def RepO (F H : Hp) : O → V → List Addr → Prop
  | .fz d, v, fp => Rep K T F d v ∧ fp = []
  | .lst os, v, fp => ∃ a xs fq, v = .ref a ∧ H a = some (.lst xs) ∧ F a = none ∧ RepOs F H os xs fq ∧ a ∉ fq ∧ fp = a :: fq
  | .ins c ns os, v, fp => ∃ a dx fs fq, v = .ref a ∧ H a = some (.ins (T.cls c) dx fs) ∧ F a = none ∧ fs.map (·.1) = ns.map T.nm ∧ (∀ n ∈ ns, n < T.nl) ∧ RepOs F H os (fs.map (·.2)) fq ∧ a ∉ fq ∧ fp = a :: fq
def RepOs (F H : Hp) : List O → List V → List Addr → Prop
  | [], vs, fp => vs = [] ∧ fp = []
  | o :: os, vs, fp => ∃ v r f1 f2, vs = v :: r ∧ RepO F H o v f1 ∧ RepOs F H os r f2 ∧ (∀ a ∈ f1, a ∉ f2) ∧ fp = f1 ++ f2
end
end

mutual
/-- what it is, whoever owns it -/
def O.d : O → D
  | .fz d => d
  | .lst os => .lst (O.ds os)
  | .ins c ns os => .ins c ns (O.ds os)
def O.ds : List O → List D
  | [] => []
  | o :: os => o.d :: O.ds os
end
theorem O.ds_map : ∀ os, O.ds os = os.map O.d
  | [] => rfl
  | o :: os => by rw [O.ds, O.ds_map os]; rfl

section
variable {K : PySem.W.Frag} {T : Tb}
theorem rd_mono {F F' : Hp} {a : Addr} {u : HO} (h : Same F F') (q : Rd F a u) : Rd F' a u := by
  rcases q with q | ⟨o, q⟩
  · exact .inl (h _ _ q)
  · exact .inr ⟨o, h _ _ q⟩
theorem sqt_mono {F F' : Hp} {a : Addr} {xs : List V} (h : Same F F') (q : SqT K F a xs) : SqT K F' a xs := by
  rcases q with (q | ⟨o, q⟩) | q
  · exact .inl (.inl (h _ _ q))
  · exact .inl (.inr ⟨o, h _ _ q⟩)
  · exact .inr q
mutual
theorem Rep.mono {F F' : Hp} (h : Same F F') : ∀ (d : D) (v : V), Rep K T F d v → Rep K T F' d v
  | .non, _, q => q
  | .bl _, _, q => q
  | .int _, _, q => q
  | .str _, _, q => q
  | .lst ds, v, q => by
    obtain ⟨a, xs, e, s, r⟩ := q
    exact ⟨a, xs, e, rd_mono h s, Reps.mono h ds xs r⟩
  | .tup ds, v, q => by
    obtain ⟨a, xs, e, s, r⟩ := q
    exact ⟨a, xs, e, sqt_mono h s, Reps.mono h ds xs r⟩
  | .ins c ns ds, v, q => by
    obtain ⟨a, dx, fs, e, s, n, nb, r⟩ := q
    exact ⟨a, dx, fs, e, h _ _ s, n, nb, Reps.mono h ds _ r⟩
  | .fn _, _, q => q
theorem Reps.mono {F F' : Hp} (h : Same F F') : ∀ (ds : List D) (vs : List V), Reps K T F ds vs → Reps K T F' ds vs
  | [], _, q => q
  | d :: ds, vs, q => by
    obtain ⟨v, r, e, a, b⟩ := q
    exact ⟨v, r, e, Rep.mono h d v a, Reps.mono h ds r b⟩
end
theorem Reps.length {F : Hp} : ∀ {ds : List D} {vs : List V}, Reps K T F ds vs → vs.length = ds.length
  | [], _, q => by rw [show _ = _ from q]; rfl
  | d :: ds, vs, q => by
    obtain ⟨v, r, e, _, b⟩ := q
    rw [e, List.length_cons, List.length_cons, Reps.length b]
theorem Reps.get {F : Hp} : ∀ {ds : List D} {vs : List V} {i : Nat} {d : D}, Reps K T F ds vs → ds[i]? = some d → ∃ v, vs[i]? = some v ∧ Rep K T F d v
  | [], _, _, _, _, h => by simp at h
  | d :: ds, vs, 0, x, q, h => by
    obtain ⟨v, r, e, a, _⟩ := q
    obtain rfl : d = x := by simpa using h
    exact ⟨v, by rw [e]; rfl, a⟩
  | d :: ds, vs, i + 1, x, q, h => by
    obtain ⟨v, r, e, _, b⟩ := q
    obtain ⟨v', h1, h2⟩ := Reps.get (i := i) b (by simpa using h)
    exact ⟨v', by rw [e]; simpa using h1, h2⟩
theorem Reps.append {F : Hp} : ∀ {ds es : List D} {vs ws : List V}, Reps K T F ds vs → Reps K T F es ws → Reps K T F (ds ++ es) (vs ++ ws)
  | [], _, _, _, q, r => by rw [show _ = _ from q]; exact r
  | d :: ds, es, vs, ws, q, r => by
    obtain ⟨v, u, e, a, b⟩ := q
    exact ⟨v, u ++ ws, by rw [e]; rfl, a, Reps.append b r⟩
theorem Reps.of_get {F : Hp} : ∀ {ds : List D} {vs : List V}, vs.length = ds.length → (∀ (i : Nat) (d : D) (v : V), ds[i]? = some d → vs[i]? = some v → Rep K T F d v) → Reps K T F ds vs
  | [], vs, hl, _ => by
    show vs = []
    exact List.length_eq_zero_iff.mp hl
  | d :: ds, [], hl, _ => by simp at hl
  | d :: ds, v :: vs, hl, h => ⟨v, vs, rfl, h 0 d v rfl rfl, Reps.of_get (by simpa using hl) fun i x y h1 h2 => h (i + 1) x y (by simpa using h1) (by simpa using h2)⟩
theorem Reps.cons {F : Hp} {d : D} {ds : List D} {v : V} {vs : List V} (a : Rep K T F d v) (b : Reps K T F ds vs) : Reps K T F (d :: ds) (v :: vs) := ⟨v, vs, rfl, a, b⟩
theorem Reps.one {F : Hp} {d : D} {v : V} (a : Rep K T F d v) : Reps K T F [d] [v] := ⟨v, [], rfl, a, rfl⟩

/-- all of l is as it was in H, still unknown to F -/
structure Stay (F' H H' : Hp) (l : List Addr) : Prop where
  same : ∀ a ∈ l, ∀ o, H a = some o → H' a = some o
  free : ∀ a ∈ l, F' a = none
theorem Stay.sub {F' H H' : Hp} {l m : List Addr} (s : Stay F' H H' l) (h : ∀ a ∈ m, a ∈ l) : Stay F' H H' m := ⟨fun a ha => s.same a (h a ha), fun a ha => s.free a (h a ha)⟩
mutual
theorem RepO.mono {F F' H H' : Hp} (h : Same F F') : ∀ (o : O) (v : V) (fp : List Addr), RepO K T F H o v fp → Stay F' H H' fp → RepO K T F' H' o v fp
  | .fz d, v, fp, q, s => ⟨Rep.mono h d v q.1, q.2⟩
  | .lst os, v, fp, q, s => by
    obtain ⟨a, xs, fq, e, ha, hf, r, n, ef⟩ := q
    subst ef
    exact ⟨a, xs, fq, e, s.same a List.mem_cons_self _ ha, s.free a List.mem_cons_self, RepOs.mono h os xs fq r (s.sub fun _ => List.mem_cons_of_mem _), n, rfl⟩
  | .ins c ns os, v, fp, q, s => by
    obtain ⟨a, dx, fs, fq, e, ha, hf, hn, nb, r, n, ef⟩ := q
    subst ef
    exact ⟨a, dx, fs, fq, e, s.same a List.mem_cons_self _ ha, s.free a List.mem_cons_self, hn, nb, RepOs.mono h os _ fq r (s.sub fun _ => List.mem_cons_of_mem _), n, rfl⟩
theorem RepOs.mono {F F' H H' : Hp} (h : Same F F') : ∀ (os : List O) (vs : List V) (fp : List Addr), RepOs K T F H os vs fp → Stay F' H H' fp → RepOs K T F' H' os vs fp
  | [], vs, fp, q, s => q
  | o :: os, vs, fp, q, s => by
    obtain ⟨v, r, f1, f2, e, a, b, d, ef⟩ := q
    subst ef
    exact ⟨v, r, f1, f2, e, RepO.mono h o v f1 a (s.sub fun _ => List.mem_append_left _), RepOs.mono h os r f2 b (s.sub fun _ => List.mem_append_right _), d, rfl⟩
end
mutual
theorem RepO.dom {F H : Hp} : ∀ (o : O) (v : V) (fp : List Addr), RepO K T F H o v fp → ∀ a ∈ fp, F a = none ∧ ∃ u, H a = some u
  | .fz d, v, fp, q, a, ha => by rw [q.2] at ha; cases ha
  | .lst os, v, fp, q, a, ha => by
    obtain ⟨b, xs, fq, e, hb, hf, r, n, ef⟩ := q
    rw [ef] at ha
    rcases List.mem_cons.mp ha with rfl | ha
    · exact ⟨hf, _, hb⟩
    · exact RepOs.dom os xs fq r a ha
  | .ins c ns os, v, fp, q, a, ha => by
    obtain ⟨b, dx, fs, fq, e, hb, hf, hn, nb, r, n, ef⟩ := q
    rw [ef] at ha
    rcases List.mem_cons.mp ha with rfl | ha
    · exact ⟨hf, _, hb⟩
    · exact RepOs.dom os _ fq r a ha
theorem RepOs.dom {F H : Hp} : ∀ (os : List O) (vs : List V) (fp : List Addr), RepOs K T F H os vs fp → ∀ a ∈ fp, F a = none ∧ ∃ u, H a = some u
  | [], vs, fp, q, a, ha => by rw [q.2] at ha; cases ha
  | o :: os, vs, fp, q, a, ha => by
    obtain ⟨v, r, f1, f2, e, h1, h2, d, ef⟩ := q
    rw [ef] at ha
    rcases List.mem_append.mp ha with ha | ha
    · exact RepO.dom o v f1 h1 a ha
    · exact RepOs.dom os r f2 h2 a ha
end

/-- F, and what stands at l in H -/
def frz (F H : Hp) (l : List Addr) : Hp := fun a => if a ∈ l then H a else F a
theorem frz_in {F H : Hp} {l : List Addr} {a : Addr} (h : a ∈ l) : frz F H l a = H a := if_pos h
theorem frz_out {F H : Hp} {l : List Addr} {a : Addr} (h : a ∉ l) : frz F H l a = F a := if_neg h
theorem frz_same {F H : Hp} {l : List Addr} (h : ∀ a ∈ l, F a = none) : Same F (frz F H l) := fun a o e => by
  rw [frz_out fun z => by rw [h a z] at e; cases e]; exact e
theorem frz_le {F H : Hp} {l : List Addr} (h : Same F H) : Same (frz F H l) H := fun a o e => by
  by_cases z : a ∈ l
  · rw [frz_in z] at e; exact e
  · rw [frz_out z] at e; exact h a o e
mutual
theorem RepO.freeze {F H F' : Hp} (h : Same F F') : ∀ (o : O) (v : V) (fp : List Addr), RepO K T F H o v fp → (∀ a ∈ fp, ∀ u, H a = some u → F' a = some u) → Rep K T F' o.d v
  | .fz d, v, fp, q, g => Rep.mono h d v q.1
  | .lst os, v, fp, q, g => by
    obtain ⟨a, xs, fq, e, ha, hf, r, n, ef⟩ := q
    subst ef
    exact ⟨a, xs, e, .inl (g a List.mem_cons_self _ ha), RepOs.freeze h os xs fq r fun b hb => g b (List.mem_cons_of_mem _ hb)⟩
  | .ins c ns os, v, fp, q, g => by
    obtain ⟨a, dx, fs, fq, e, ha, hf, hn, nb, r, n, ef⟩ := q
    subst ef
    exact ⟨a, dx, fs, e, g a List.mem_cons_self _ ha, hn, nb, RepOs.freeze h os _ fq r fun b hb => g b (List.mem_cons_of_mem _ hb)⟩
theorem RepOs.freeze {F H F' : Hp} (h : Same F F') : ∀ (os : List O) (vs : List V) (fp : List Addr), RepOs K T F H os vs fp → (∀ a ∈ fp, ∀ u, H a = some u → F' a = some u) → Reps K T F' (O.ds os) vs
  | [], vs, fp, q, g => q.1
  | o :: os, vs, fp, q, g => by
    obtain ⟨v, r, f1, f2, e, h1, h2, d, ef⟩ := q
    subst ef
    exact ⟨v, r, e, RepO.freeze h o v f1 h1 fun a ha => g a (List.mem_append_left _ ha), RepOs.freeze h os r f2 h2 fun a ha => g a (List.mem_append_right _ ha)⟩
end
theorem RepO.see {F H : Hp} (h : Same F H) {o : O} {v : V} {fp : List Addr} (q : RepO K T F H o v fp) : Rep K T H o.d v := RepO.freeze h o v fp q fun _ _ _ e => e
theorem RepOs.see {F H : Hp} (h : Same F H) {os : List O} {vs : List V} {fp : List Addr} (q : RepOs K T F H os vs fp) : Reps K T H (O.ds os) vs := RepOs.freeze h os vs fp q fun _ _ _ e => e
theorem RepOs.length {F H : Hp} : ∀ {os : List O} {vs : List V} {fp : List Addr}, RepOs K T F H os vs fp → vs.length = os.length
  | [], _, _, q => by rw [q.1]; rfl
  | o :: os, _, _, q => by
    obtain ⟨v, r, f1, f2, e, _, h2, _, _⟩ := q
    rw [e, List.length_cons, List.length_cons, RepOs.length h2]
theorem RepOs.get {F H : Hp} : ∀ {os : List O} {vs : List V} {fp : List Addr} {i : Nat} {o : O}, RepOs K T F H os vs fp → os[i]? = some o → ∃ v f1, vs[i]? = some v ∧ RepO K T F H o v f1 ∧ ∀ a ∈ f1, a ∈ fp
  | [], _, _, _, _, _, h => by simp at h
  | o :: os, _, _, 0, x, q, h => by
    obtain ⟨v, r, f1, f2, e, h1, h2, d, ef⟩ := q
    obtain rfl : o = x := by simpa using h
    exact ⟨v, f1, by rw [e]; rfl, h1, fun a ha => by rw [ef]; exact List.mem_append_left _ ha⟩
  | o :: os, _, _, i + 1, x, q, h => by
    obtain ⟨v, r, f1, f2, e, h1, h2, d, ef⟩ := q
    obtain ⟨v', g, k1, k2, k3⟩ := RepOs.get (i := i) h2 (by simpa using h)
    exact ⟨v', g, by rw [e]; simpa using k1, k2, fun a ha => by rw [ef]; exact List.mem_append_right _ (k3 a ha)⟩
end
end Ml

set_option Elab.async false
set_option linter.all false
set_option maxRecDepth 100000
set_option maxHeartbeats 4000000
/-! M1: a small language of expressions and statements over plain data, and what it means. -/
namespace Ml
open PySem L2

inductive Rs (α : Type) where
  | ok (a : α)
  | exc (c : Nat) (ds : List D)
  | bad
inductive Rv where
  | my (o : O)
  | vw (o : O)
@[simp] def Rv.o : Rv → O
  | .my o => o
  | .vw o => o
@[simp] def Rv.toO : Rv → Option O
  | .my o => some o
  | .vw (.fz d) => some (.fz d)
  | .vw _ => none
@[simp] def Rv.toD : Rv → Option D
  | .my o => some o.d
  | .vw (.fz d) => some d
  | .vw _ => none
def toOs : List Rv → Option (List O)
  | [] => some []
  | r :: rs => match r.toO, toOs rs with
    | some o, some os => some (o :: os)
    | _, _ => none
def toDs : List Rv → Option (List D)
  | [] => some []
  | r :: rs => match r.toD, toDs rs with
    | some o, some os => some (o :: os)
    | _, _ => none

abbrev St := List (Option O)

/-! ### what a value is -/
@[simp] def int? : O → Option Int
  | .fz (.int i) => some i
  | _ => none
@[simp] def str? : O → Option Str
  | .fz (.str i) => some i
  | _ => none
@[simp] def bl? : O → Option Bool
  | .fz (.bl i) => some i
  | _ => none
@[simp] def tup? : O → Option (List D)
  | .fz (.tup i) => some i
  | _ => none
/-- frozen, all of them -/
def fzs : List O → Option (List D)
  | [] => some []
  | .fz d :: os => match fzs os with
    | some ds => some (d :: ds)
    | none => none
  | _ :: _ => none
/-- a list of frozen items -/
@[simp] def lst? : O → Option (List D)
  | .fz (.lst i) => some i
  | .lst os => fzs os
  | _ => none
/-- an owned list of frozen items -/
@[simp] def ownL? : O → Option (List D)
  | .lst os => fzs os
  | _ => none
/-- a list or a tuple of frozen items -/
@[simp] def seq? : O → Option (List D)
  | .fz (.lst i) => some i
  | .fz (.tup i) => some i
  | .lst os => fzs os
  | _ => none
/-- a list's items, owned or not -/
@[simp] def items? : O → Option (List O)
  | .fz (.lst i) => some (i.map .fz)
  | .fz (.tup i) => some (i.map .fz)
  | .lst os => some os
  | _ => none

/-! ### equality -/
mutual
def D.py : D → PyData
  | .non => .none
  | .bl b => .bool b
  | .int i => .int i
  | .str s => .str s
  | .lst ds => .list (D.pys ds)
  | .tup ds => .tuple (D.pys ds)
  | .ins _ _ _ => .none
  | .fn _ => .none
def D.pys : List D → List PyData
  | [] => []
  | d :: ds => d.py :: D.pys ds
end
mutual
/-- plain: no instance, no def in it -/
def D.plain : D → Bool
  | .ins _ _ _ => false
  | .fn _ => false
  | .lst ds => D.plains ds
  | .tup ds => D.plains ds
  | _ => true
def D.plains : List D → Bool
  | [] => true
  | d :: ds => d.plain && D.plains ds
end
def D.eok (d : D) : Bool := d.plain && SeqAt.shaped d.py
def D.eqv (a b : D) : Bool := PyData.eqv a.py b.py

/-! ### operators -/
inductive O2 where
  | add | sub | mul | fdiv | mod | pow
  | lt | le | gt | ge | eq | ne | in_ | nin
inductive O1 where
  | neg | isn | notn

def oneSign (s : Str) : Bool := s.length == 1
def addO (a b : O) : Option O := match int? a, int? b with
  | some i, some j => some (.fz (.int (i + j)))
  | _, _ => match str? a, str? b with
    | some x, some y => if (x ++ y).length ≤ sizeLine then some (.fz (.str (x ++ y))) else none
    | _, _ => match lst? a, lst? b with
      | some x, some y => if x.length + y.length ≤ sizeLine then some (.lst ((x ++ y).map .fz)) else none
      | _, _ => match tup? a, tup? b with
        | some x, some y => if x.length + y.length ≤ sizeLine then some (.fz (.tup (x ++ y))) else none
        | _, _ => none
def subO (a b : O) : Option O := match int? a, int? b with
  | some i, some j => some (.fz (.int (i - j)))
  | _, _ => none
def mulOk (i j : Int) : Bool := decide (i.natAbs.log2 + j.natAbs.log2 < 100000000) || decide (-(2 ^ 64) < j ∧ j < 2 ^ 64) || decide (-(2 ^ 64) < i ∧ i < 2 ^ 64)
def mulO (a b : O) : Option O := match int? a, int? b with
  | some i, some j => if mulOk i j then some (.fz (.int (i * j))) else none
  | _, _ => match ownL? a, int? b with
    | some x, some j => if -(2 ^ 62) ≤ j ∧ j < 2 ^ 62 ∧ x.length * j.toNat ≤ sizeLine then some (.lst ((List.replicate j.toNat x).flatten.map .fz)) else none
    | _, _ => none
def fdivO (a b : O) : Option O := match int? a, int? b with
  | some i, some j => if j ≠ 0 ∧ j.natAbs.log2 < 9000 then some (.fz (.int (i.fdiv j))) else none
  | _, _ => none
def modO (a b : O) : Option O := match int? a, int? b with
  | some i, some j => if j ≠ 0 then some (.fz (.int (i.fmod j))) else none
  | _, _ => none
def powO (a b : O) : Option O := match int? a, int? b with
  | some i, some j => if 0 ≤ j ∧ j ≤ 1000000 ∧ i.natAbs < 2 ^ 64 then some (.fz (.int (i ^ j.toNat))) else none
  | _, _ => none
def cmpO (p : Int → Int → Bool) (a b : O) : Option O := match int? a, int? b with
  | some i, some j => some (.fz (.bl (p i j)))
  | _, _ => none
def eqO (neg : Bool) (a b : O) : Option O := if a.d.eok && b.d.eok then some (.fz (.bl (if neg then !a.d.eqv b.d else a.d.eqv b.d))) else none
@[simp] def flatD : D → Bool
  | .non => true
  | .bl _ => true
  | .int _ => true
  | .str _ => true
  | _ => false
def inD (x : D) (xs : List D) : Bool := xs.any fun y => y.eqv x
def inO (neg : Bool) (a b : O) : Option O := match str? a, str? b with
  | some x, some y => if oneSign x then some (.fz (.bl (if neg then !(y.cps.toList.contains (x.cps.toList.getD 0 0)) else y.cps.toList.contains (x.cps.toList.getD 0 0)))) else none
  | _, _ => match seq? b with
    | some xs => if flatD a.d && xs.all flatD then some (.fz (.bl (if neg then !inD a.d xs else inD a.d xs))) else none
    | none => none
def op2 : O2 → O → O → Option O
  | .add => addO
  | .sub => subO
  | .mul => mulO
  | .fdiv => fdivO
  | .mod => modO
  | .pow => powO
  | .lt => cmpO fun i j => decide (i < j)
  | .le => cmpO fun i j => decide (i ≤ j)
  | .gt => cmpO fun i j => decide (j < i)
  | .ge => cmpO fun i j => decide (j ≤ i)
  | .eq => eqO false
  | .ne => eqO true
  | .in_ => inO false
  | .nin => inO true
def isNone : O → Bool
  | .fz .non => true
  | _ => false
def op1 : O1 → O → Option O
  | .neg, a => match int? a with
    | some i => some (.fz (.int (-i)))
    | none => none
  | .isn, a => some (.fz (.bl (isNone a)))
  | .notn, a => some (.fz (.bl (!isNone a)))
def truth : O → Option Bool
  | .fz .non => some false
  | .fz (.bl b) => some b
  | .fz (.int i) => some (i != 0)
  | .fz (.str s) => if s.length ≤ sizeLine then some (s.length != 0) else none
  | .fz (.lst ds) => some !ds.isEmpty
  | .fz (.tup ds) => some !ds.isEmpty
  | .lst os => some !os.isEmpty
  | _ => none
def ixO (a i : O) : Option O := match int? i with
  | none => none
  | some k => match str? a with
    | some s => if s.length ≤ sizeLine then (match atI s.cps.toList k with
      | some c => some (.fz (.str ⟨#[c]⟩))
      | none => none) else none
    | none => match items? a with
      | some os => atI os k
      | none => none
def cutD (xs : List D) (lo hi : Option Int) : List D := (xs.drop (HT.sIx xs.length 0 lo)).take (HT.sIx xs.length xs.length hi - HT.sIx xs.length 0 lo)
def slO (a : O) (lo hi : Option Int) : Option O := match str? a with
  | some s => if s.length ≤ sizeLine then some (.fz (.str (cutS s lo hi))) else none
  | none => match lst? a with
    | some xs => some (.lst ((cutD xs lo hi).map .fz))
    | none => match tup? a with
      | some xs => some (.fz (.tup (cutD xs lo hi)))
      | none => none
def lookF (f : Nat) : List Nat → List O → Option O
  | n :: ns, o :: os => if f = n then some o else lookF f ns os
  | _, _ => none
/-- the class c has the field f -/
def okF (fl : List (List Nat)) (c f : Nat) : Bool := (fl.getD c []).contains f
def fldO (fl : List (List Nat)) (a : O) (f : Nat) : Option O := match a with
  | .fz (.ins c ns ds) => if okF fl c f then lookF f ns (ds.map .fz) else none
  | .ins c ns os => if okF fl c f then lookF f ns os else none
  | _ => none
/-- isinstance of an own class -/
def iscO (fl : List (List Nat)) (c : Nat) (a : O) : Option O := match a.d with
  | .ins c' _ _ => if c < fl.length ∧ c' < fl.length then some (.fz (.bl (c' == c))) else none
  | _ => none

def fmtO (o : O) : Option Str := match str? o with
  | some s => if s.length ≤ sizeLine then some s else none
  | none => match int? o with
    | some i => if i.natAbs.log2 < 1920 then some (Str.ofString (toString i)) else none
    | none => none
/-! ### built-ins -/
inductive Bi where
  | len | int_ | abs | tuple | list | str_ | max2 | min2 | gcd | any | all | sum
  | isi (ts : List String)
  | split | join | startswith | upper | setlen | index
def intBool (b : Bool) : Int := if b then 1 else 0
@[simp] def bls : List D → Option (List Bool)
  | [] => some []
  | .bl b :: r => match bls r with
    | some bs => some (b :: bs)
    | none => none
  | _ :: _ => none
@[simp] def intsD : List D → Option (List Int)
  | [] => some []
  | .int b :: r => match intsD r with
    | some bs => some (b :: bs)
    | none => none
  | _ :: _ => none
@[simp] def strs' : List D → Option (List Str)
  | [] => some []
  | .str b :: r => match strs' r with
    | some bs => some (b :: bs)
    | none => none
  | _ :: _ => none
/-- the name of a value's built-in class -/
def tyNm : D → String
  | .non => "NoneType"
  | .bl _ => "bool"
  | .int _ => "int"
  | .str _ => "str"
  | .lst _ => "list"
  | .tup _ => "tuple"
  | _ => ""
def isN (t n : String) : Bool := n == t || (t == "int" && n == "bool")
/-- isinstance of a built-in class -/
def isT (t : String) (d : D) : Bool := isN t (tyNm d)
def isTs : List String → D → Bool
  | [], _ => false
  | t :: ts, d => isT t d || isTs ts d
def isiOk : D → Bool
  | .ins _ _ _ => false
  | .fn _ => false
  | _ => true
def bi : Bi → List O → Option O
  | .len, [a] => match str? a with
    | some s => if s.length ≤ sizeLine then some (.fz (.int s.length)) else none
    | none => match items? a with
      | some os => some (.fz (.int os.length))
      | none => none
  | .int_, [a] => match int? a with
    | some i => some (.fz (.int i))
    | none => match bl? a with
      | some b => some (.fz (.int (intBool b)))
      | none => match str? a with
        | some s => match PySem.intText? s with
          | some n => if s.length ≤ 640 then some (.fz (.int n)) else none
          | none => none
        | none => none
  | .abs, [a] => match int? a with
    | some i => some (.fz (.int (if i < 0 then -i else i)))
    | none => none
  | .tuple, [a] => match seq? a with
    | some ds => some (.fz (.tup ds))
    | none => none
  | .list, [a] => match seq? a with
    | some ds => some (.lst (ds.map .fz))
    | none => none
  | .str_, [a] => match int? a with
    | some i => if i.natAbs.log2 < 1920 then some (.fz (.str (Str.ofString (toString i)))) else none
    | none => none
  | .max2, [a, b] => match int? a, int? b with
    | some i, some j => some (.fz (.int (if j > i then j else i)))
    | _, _ => none
  | .min2, [a, b] => match int? a, int? b with
    | some i, some j => some (.fz (.int (if j < i then j else i)))
    | _, _ => none
  | .gcd, [a, b] => match int? a, int? b with
    | some i, some j => some (.fz (.int (Nat.gcd i.natAbs j.natAbs : Nat)))
    | _, _ => none
  | .any, [a] => match lst? a with
    | some ds => match bls ds with
      | some bs => some (.fz (.bl (bs.any id)))
      | none => none
    | none => none
  | .all, [a] => match lst? a with
    | some ds => match bls ds with
      | some bs => some (.fz (.bl (bs.all id)))
      | none => none
    | none => none
  | .sum, [a] => match lst? a with
    | some ds => match intsD ds with
      | some bs => some (.fz (.int bs.sum))
      | none => none
    | none => none
  | .isi ts, [a] => if isiOk a.d then some (.fz (.bl (isTs ts a.d))) else none
  | .split, [a, b] => match str? a, str? b with
    | some x, some y => if (y.length == 0) = false ∧ x.length + 2 ≤ sizeLine then some (.lst ((Txt.split x y).map fun s => .fz (.str s))) else none
    | _, _ => none
  | .join, [a, b] => match str? a, seq? b with
    | some x, some ds => match strs' ds with
      | some ys => if (ys.map (·.length)).sum + ys.length * x.length ≤ 16777216 then some (.fz (.str (Txt.join x ys))) else none
      | none => none
    | _, _ => none
  | .startswith, [a, b] => match str? a, str? b with
    | some x, some y => some (.fz (.bl (Txt.startswith x y)))
    | _, _ => none
  | .upper, [a] => match str? a with
    | some x => if x.length ≤ 5592405 then some (.fz (.str (Txt.upper x))) else none
    | none => none
  | _, _ => none

/-! ### expressions -/
inductive Tg where
  | nm (i : Nat)
  | tp (ts : List Tg)
mutual
inductive E where
  | k (d : D) | v (i : Nat) | g (x : Nat)
  | tup (es : List E) | lst (es : List E)
  | o2 (op : O2) (a b : E) | o1 (op : O1) (a : E)
  | not (a : E) | and (a b : E) | or (a b : E)
  | ite (c : Te) (a b : E)
  | ix (a i : E) | sl (a : E) (lo hi : List E)
  | call (f : Nat) (es : List E)
  | bi (b : Bi) (es : List E)
  | is1 (b : Bi) (a : E) | isc (c : Nat) (a : E)
  | fld (a : E) (f : Nat)
  | mk (c f : Nat) (es : List E)
  | fs (es : List E)
  | lc (elt : E) (t : Tg) (s : Nat) (src : List E) (ifs : List Te)
/-- a test -/
inductive Te where
  | e (x : E)
  | o2 (op : O2) (a b : E)
  | o1 (op : O1) (a : E)
  | not (a : Te) | and (a b : Te) | or (a b : Te)
end
/-- what is walked, by the number s -/
def rangeOf (i j : Int) : List O := (List.range (j - i).toNat).map fun k : Nat => .fz (.int (i + (k : Int)))
def walkO : Nat → List O → Option (List O)
  | 0, [a] => match str? a with
    | some s => some (s.cps.toList.map fun c => .fz (.str ⟨#[c]⟩))
    | none => items? a
  | 1, [a] => match int? a with
    | some j => if -(2 ^ 62) ≤ j ∧ j < 2 ^ 62 then some (rangeOf 0 j) else none
    | none => none
  | 2, [a, b] => match int? a, int? b with
    | some i, some j => if -(2 ^ 62) ≤ i ∧ i < 2 ^ 62 ∧ -(2 ^ 62) ≤ j ∧ j < 2 ^ 62 then some (rangeOf i j) else none
    | _, _ => none
  | 3, [a] => match seq? a with
    | some ds => some ((List.range ds.length).zip ds |>.map fun p => .fz (.tup [.int p.1, p.2]))
    | none => none
  | 4, [a, b] => match seq? a, seq? b with
    | some x, some y => some ((x.zip y).map fun p => .fz (.tup [p.1, p.2]))
    | _, _ => none
  | _, _ => none
mutual
def Tg.slots : Tg → List Nat
  | .nm i => [i]
  | .tp ts => Tg.slotss ts
def Tg.slotss : List Tg → List Nat
  | [] => []
  | t :: ts => t.slots ++ Tg.slotss ts
end
def wipeS (st : St) : List Nat → St
  | [] => st
  | i :: is => (wipeS st is).set i none
mutual
def bindT : Tg → O → St → Option St
  | .nm i, o, st => some (st.set i (some o))
  | .tp ts, o, st => match tup? o with
    | some ds => bindTs ts ds st
    | none => none
def bindTs : List Tg → List D → St → Option St
  | [], [], st => some st
  | t :: ts, d :: ds, st => match bindT t (.fz d) st with
    | some st' => bindTs ts ds st'
    | none => none
  | _, _, _ => none
end
/-- what the text's defs do: by number, the arguments; the answer and the referred arguments behind it -/
abbrev Fs := Nat → List O → Rs (O × List O)

@[simp] def lift (o : Option O) : Rs Rv := match o with
  | some o => .ok (.my o)
  | none => .bad
@[simp] def Rs.then {α β : Type} (r : Rs α) (f : α → Rs β) : Rs β := match r with
  | .ok a => f a
  | .exc c ds => .exc c ds
  | .bad => .bad
/-- nothing is raised -/
@[simp] def Rs.calm {α : Type} (r : Rs α) : Rs α := match r with
  | .ok a => .ok a
  | _ => .bad
/-- the loop of a comprehension -/
def lcL (f : O → Rs (Option O)) : List O → Rs (List O)
  | [] => .ok []
  | x :: xs => (f x).then fun y => (lcL f xs).then fun ys => match y with
    | some o => .ok (o :: ys)
    | none => .ok ys

/-- a way to call with keywords: the def, the values by place, the keywords' names, where each parameter is taken from (self, values, keywords' values, defaults), the defaults -/
structure Kw where
  f : Nat
  n : Nat
  ks : List Str
  pl : List Nat
  ds : List D
structure Gl where
  cons : List D
  fs : Fs
  fl : List (List Nat)
  kw : List Kw := []

mutual
def ev (G : Gl) : E → St → Rs Rv
  | .k d, _ => .ok (.my (.fz d))
  | .v i, st => match st[i]? with
    | some (some o) => .ok (.vw o)
    | _ => .bad
  | .g x, _ => match G.cons[x]? with
    | some d => .ok (.vw (.fz d))
    | none => .bad
  | .tup es, st => (evs G es st).then fun rs => match toDs rs with
    | some ds => if ds.length ≤ sizeLine then .ok (.my (.fz (.tup ds))) else .bad
    | none => .bad
  | .lst es, st => (evs G es st).then fun rs => match toOs rs with
    | some os => if os.length ≤ sizeLine then .ok (.my (.lst os)) else .bad
    | none => .bad
  | .o2 op a b, st => (ev G a st).then fun x => (ev G b st).then fun y => lift (op2 op x.o y.o)
  | .o1 op a, st => (ev G a st).then fun x => lift (op1 op x.o)
  | .not a, st => (ev G a st).then fun x => match truth x.o with
    | some b => .ok (.my (.fz (.bl !b)))
    | none => .bad
  | .and a b, st => (ev G a st).then fun x => match bl? x.o with
    | some true => ev G b st
    | some false => .ok (.my (.fz (.bl false)))
    | none => .bad
  | .or a b, st => (ev G a st).then fun x => match bl? x.o with
    | some false => ev G b st
    | some true => .ok (.my (.fz (.bl true)))
    | none => .bad
  | .ite c a b, st => (et G c st).then fun x => if x then ev G a st else ev G b st
  | .ix a i, st => (ev G a st).then fun x => (ev G i st).then fun y => match ixO x.o y.o with
    | some o => .ok (.vw o)
    | none => .bad
  | .sl a lo hi, st => (ev G a st).then fun x => (evo G lo st).then fun l => (evo G hi st).then fun h => lift (slO x.o l h)
  | .call f es, st => (evs G es st).then fun rs => match toDs rs with
    | some ds => (G.fs f (ds.map .fz)).then fun r => .ok (.my r.1)
    | none => .bad
  | .bi b es, st => (evs G es st).then fun rs => lift (bi b (rs.map Rv.o))
  | .is1 b a, st => (ev G a st).then fun x => lift (bi b [x.o])
  | .isc c a, st => (ev G a st).then fun x => lift (iscO G.fl c x.o)
  | .fld a f, st => (ev G a st).then fun x => match fldO G.fl x.o f with
    | some o => .ok (.vw o)
    | none => .bad
  | .mk c f es, st => (evs G es st).then fun rs => match toDs rs with
    | some ds => (G.fs f (.ins c [] [] :: ds.map .fz)).then fun r => match r with
      | (.fz .non, [o]) => .ok (.my o)
      | _ => .bad
    | none => .bad
  | .fs es, st => (evf G es Str.empty st).then fun s => .ok (.my (.fz (.str s)))
  | .lc elt t s src ifs, st => (evs G src st).then fun rs => match walkO s (rs.map Rv.o) with
    | some os => (lcL (fun o => (match bindT t o (wipeS st t.slots) with
        | some st' => (ets G ifs st').then fun b => if b then (ev G elt st').then fun r => match r.toO with
            | some o => .ok (some o)
            | none => .bad
          else .ok none
        | none => .bad : Rs (Option O)).calm) os).then fun ys => if ys.length < sizeLine then .ok (.my (.lst ys)) else .bad
    | none => .bad
def evs (G : Gl) : List E → St → Rs (List Rv)
  | [], _ => .ok []
  | e :: es, st => (ev G e st).then fun r => (evs G es st).then fun rs => .ok (r :: rs)
/-- the parts of an f-string, one behind the other -/
def evf (G : Gl) : List E → Str → St → Rs Str
  | [], acc, _ => .ok acc
  | e :: es, acc, st => (ev G e st).then fun r => match fmtO r.o with
    | some y => if (acc ++ y).length ≤ sizeLine then evf G es (acc ++ y) st else .bad
    | none => .bad
def evo (G : Gl) : List E → St → Rs (Option Int)
  | [], _ => .ok none
  | e :: _, st => (ev G e st).then fun r => match int? r.o with
    | some i => .ok (some i)
    | none => .bad
/-- as a test -/
def et (G : Gl) : Te → St → Rs Bool
  | .e x, st => (ev G x st).then fun r => match truth r.o with
    | some b => .ok b
    | none => .bad
  | .o2 op a b, st => (ev G a st).then fun x => (ev G b st).then fun y => match op2 op x.o y.o with
    | some (.fz (.bl b)) => .ok b
    | _ => .bad
  | .o1 op a, st => (ev G a st).then fun x => match op1 op x.o with
    | some (.fz (.bl b)) => .ok b
    | _ => .bad
  | .not a, st => (et G a st).then fun b => .ok !b
  | .and a b, st => (et G a st).then fun x => if x then et G b st else .ok false
  | .or a b, st => (et G a st).then fun x => if x then .ok true else et G b st
def ets (G : Gl) : List Te → St → Rs Bool
  | [], _ => .ok true
  | e :: es, st => (et G e st).then fun b => if b then ets G es st else .ok false
end
example (G : Gl) (d : D) (st : St) : ev G (.k d) st = .ok (.my (.fz d)) := rfl
example (G : Gl) (a b : E) (st : St) : ev G (.and a b) st = (ev G a st).then fun x => match bl? x.o with | some true => ev G b st | some false => .ok (.my (.fz (.bl false))) | none => .bad := rfl
end Ml

set_option Elab.async false
set_option linter.all false
set_option maxRecDepth 100000
set_option maxHeartbeats 4000000
/-! M2: the operators' rules by the meaning of M1. -/
namespace Ml
open PySem PySem.Spec PyProof.Rows L2

/-- more is frozen, more stands -/
structure Ext (F H F' H' : Hp) : Prop where
  ff : Same F F'
  hh : Same H H'
  fh : Same F' H'
  nw : ∀ a o, F' a = some o → F a = none → H a = none
theorem Ext.refl {F H : Hp} (h : Same F H) : Ext F H F H := ⟨Same.refl _, Same.refl _, h, fun a o e n => by rw [n] at e; cases e⟩
theorem Ext.trans {F H F1 H1 F2 H2 : Hp} (x : Ext F H F1 H1) (y : Ext F1 H1 F2 H2) : Ext F H F2 H2 :=
  ⟨x.ff.trans y.ff, x.hh.trans y.hh, y.fh, fun a o e n => by
    cases q : F1 a with
    | some u => exact x.nw a u q n
    | none => exact x.hh.free (y.nw a o e q)⟩
theorem Ext.stay {F H F' H' : Hp} (x : Ext F H F' H') {l : List Addr} (h : ∀ a ∈ l, F a = none ∧ ∃ u, H a = some u) : Stay F' H H' l :=
  ⟨fun a _ o e => x.hh a o e, fun a ha => by
    obtain ⟨f, u, hu⟩ := h a ha
    cases q : F' a with
    | none => rfl
    | some o => rw [x.nw a o q f] at hu; cases hu⟩
/-- a new object, frozen -/
theorem Ext.new {F H : Hp} {p : Addr} {o : HO} (h : Same F H) (n : H p = none) : Ext F H (upd F p o) (upd H p o) := by
  have nf : F p = none := h.free n
  refine ⟨fun a u e => ?_, fun a u e => ?_, fun a u e => ?_, fun a u e q => ?_⟩
  · rw [upd_ne (ne_of_none e nf)]; exact e
  · rw [upd_ne (ne_of_none e n)]; exact e
  · by_cases z : a = p
    · subst z; rw [upd_same] at e ⊢; exact e
    · rw [upd_ne z] at e ⊢; exact h a u e
  · by_cases z : a = p
    · subst z; exact n
    · rw [upd_ne z, q] at e; cases e
/-- a new object, owned -/
theorem Ext.own {F H : Hp} {p : Addr} {o : HO} (h : Same F H) (n : H p = none) : Ext F H F (upd H p o) :=
  ⟨Same.refl _, fun a u e => by rw [upd_ne (ne_of_none e n)]; exact e, fun a u e => by rw [upd_ne (ne_of_none (h a u e) n)]; exact h a u e, fun a u e q => by rw [q] at e; cases e⟩

section
variable {K : PySem.W.Frag} {T : Tb}
/-- v is o, and what it owns is new behind H0 -/
def NewR (K : PySem.W.Frag) (T : Tb) (H0 F H : Hp) (o : O) (v : V) : Prop := ∃ fp, RepO K T F H o v fp ∧ ∀ a ∈ fp, H0 a = none
theorem NewR.fz {H0 F H : Hp} {d : D} {v : V} (h : Rep K T F d v) : NewR K T H0 F H (.fz d) v := ⟨[], ⟨h, rfl⟩, fun _ z => nomatch z⟩
def See (K : PySem.W.Frag) (T : Tb) (F H : Hp) (o : O) (v : V) : Prop := ∃ fp, RepO K T F H o v fp
theorem See.ext {F H F' H' : Hp} {o : O} {v : V} (x : Ext F H F' H') (s : See K T F H o v) : See K T F' H' o v := by
  obtain ⟨fp, h⟩ := s
  exact ⟨fp, RepO.mono x.ff o v fp h (x.stay (RepO.dom o v fp h))⟩
/-- the rule of an operator by its meaning -/
def rM2 (K : PySem.W.Frag) (T : Tb) (f : O → O → Option O) : R2 := fun x y H Q => ∃ F oa ob o, Same F H ∧ See K T F H oa x ∧ See K T F H ob y ∧ f oa ob = some o ∧ ∀ v F' H', Ext F H F' H' → NewR K T H F' H' o v → Q v H'
theorem int_of {F H : Hp} {o : O} {v : V} {i : Int} (s : See K T F H o v) (h : int? o = some i) : v = .int i := by
  obtain ⟨fp, s⟩ := s
  match o, h with
  | .fz (.int j), h => cases h; exact s.1
theorem str_of {F H : Hp} {o : O} {v : V} {i : Str} (s : See K T F H o v) (h : str? o = some i) : v = .str i := by
  obtain ⟨fp, s⟩ := s
  match o, h with
  | .fz (.str j), h => cases h; exact s.1
theorem bl_of {F H : Hp} {o : O} {v : V} {i : Bool} (s : See K T F H o v) (h : bl? o = some i) : v = .bl i := by
  obtain ⟨fp, s⟩ := s
  match o, h with
  | .fz (.bl j), h => cases h; exact s.1
theorem tup_of {F H : Hp} {o : O} {v : V} {ds : List D} (sub : Same F H) (s : See K T F H o v) (h : tup? o = some ds) : ∃ a xs, v = .ref a ∧ SqT K H a xs ∧ Reps K T F ds xs := by
  obtain ⟨fp, s⟩ := s
  match o, h with
  | .fz (.tup j), h =>
    cases h
    obtain ⟨a, xs, e, q, r⟩ := s.1
    exact ⟨a, xs, e, sqt_mono sub q, r⟩
theorem tup_rep {F H : Hp} {o : O} {v : V} {ds : List D} (s : See K T F H o v) (h : tup? o = some ds) {a : Addr} (e : v = .ref a) : Rep K T F (.tup ds) (.ref a) := by
  obtain ⟨fp, s⟩ := s
  match o, h with
  | .fz (.tup j), h =>
    cases h
    rw [← e]
    exact s.1
theorem fzs_reps {F H : Hp} : ∀ {os : List O} {vs : List V} {fp : List Addr} {ds : List D}, fzs os = some ds → RepOs K T F H os vs fp → Reps K T F ds vs
  | [], vs, fp, ds, h, r => by cases h; exact r.1
  | .fz d :: os, vs, fp, ds, h, r => by
    obtain ⟨v, w, f1, f2, e, a, b, _, _⟩ := r
    cases q : fzs os with
    | none => simp [fzs, q] at h
    | some es =>
      simp [fzs, q] at h
      subst h
      exact ⟨v, w, e, a.1, fzs_reps q b⟩
  | .lst _ :: _, _, _, _, h, _ => by cases h
  | .ins _ _ _ :: _, _, _, _, h, _ => by cases h
theorem lst_of {F H : Hp} {o : O} {v : V} {ds : List D} (sub : Same F H) (s : See K T F H o v) (h : lst? o = some ds) : ∃ a xs, v = .ref a ∧ Rd H a (.lst xs) ∧ Reps K T F ds xs := by
  obtain ⟨fp, s⟩ := s
  match o, h with
  | .fz (.lst j), h =>
    cases h
    obtain ⟨a, xs, e, q, r⟩ := s.1
    exact ⟨a, xs, e, rd_mono sub q, r⟩
  | .lst os, h =>
    obtain ⟨a, xs, fq, e, ha, hf, r, n, ef⟩ := s
    exact ⟨a, xs, e, .inl ha, fzs_reps h r⟩
theorem seq_of {F H : Hp} {o : O} {v : V} {ds : List D} (sub : Same F H) (s : See K T F H o v) (h : seq? o = some ds) : ∃ a xs, v = .ref a ∧ (SqL K H a xs ∨ SqT K H a xs) ∧ Reps K T F ds xs := by
  obtain ⟨fp, s⟩ := s
  match o, h with
  | .fz (.lst j), h =>
    cases h
    obtain ⟨a, xs, e, q, r⟩ := s.1
    exact ⟨a, xs, e, .inl (.inl (rd_mono sub q)), r⟩
  | .fz (.tup j), h =>
    cases h
    obtain ⟨a, xs, e, q, r⟩ := s.1
    exact ⟨a, xs, e, .inr (sqt_mono sub q), r⟩
  | .lst os, h =>
    obtain ⟨a, xs, fq, e, ha, hf, r, n, ef⟩ := s
    exact ⟨a, xs, e, .inl (.inl (.inl ha)), fzs_reps h r⟩
theorem RepOs.of_reps {F H : Hp} : ∀ {ds : List D} {vs : List V}, Reps K T F ds vs → RepOs K T F H (ds.map .fz) vs []
  | [], vs, h => ⟨h, rfl⟩
  | d :: ds, vs, h => by
    obtain ⟨v, r, e, a, b⟩ := h
    exact ⟨v, r, [], [], e, ⟨a, rfl⟩, RepOs.of_reps b, fun _ z => (nomatch z), rfl⟩
/-- a list's or a tuple's items, as they stand -/
theorem items_of {F H : Hp} {o : O} {v : V} {os : List O} (sub : Same F H) (s : See K T F H o v) (h : items? o = some os) : ∃ a xs fp, v = .ref a ∧ (SqL K H a xs ∨ SqT K H a xs) ∧ RepOs K T F H os xs fp := by
  obtain ⟨fp, s⟩ := s
  match o, h with
  | .fz (.lst j), h =>
    cases h
    obtain ⟨a, xs, e, q, r⟩ := s.1
    exact ⟨a, xs, [], e, .inl (.inl (rd_mono sub q)), RepOs.of_reps r⟩
  | .fz (.tup j), h =>
    cases h
    obtain ⟨a, xs, e, q, r⟩ := s.1
    exact ⟨a, xs, [], e, .inr (sqt_mono sub q), RepOs.of_reps r⟩
  | .lst os, h =>
    cases h
    obtain ⟨a, xs, fq, e, ha, hf, r, n, ef⟩ := s
    exact ⟨a, xs, fq, e, .inl (.inl (.inl ha)), r⟩
/-- a new list of frozen items -/
theorem NewR.lst {H0 F H : Hp} {ds : List D} {p : Addr} {xs : List V} (sub : Same F H) (n : H p = none) (n0 : H0 p = none) (r : Reps K T F ds xs) : NewR K T H0 F (upd H p (.lst xs)) (.lst (ds.map .fz)) (.ref p) :=
  ⟨[p], ⟨p, xs, [], rfl, upd_same, sub.free n, RepOs.of_reps r, (fun z => nomatch z), rfl⟩, fun a ha => by
    obtain rfl : a = p := by simpa using ha
    exact n0⟩
theorem NewR.tup {H0 F H : Hp} {ds : List D} {p : Addr} {xs : List V} (sub : Same F H) (n : H p = none) (r : Reps K T F ds xs) : NewR K T H0 (upd F p (.tup xs)) (upd H p (.tup xs)) (.fz (.tup ds)) (.ref p) :=
  .fz ⟨p, xs, rfl, SqT.of upd_same, Reps.mono (Ext.new sub n).ff _ _ r⟩
end

section
variable {X : Cx} {T : Tb}
theorem op_mulM : OpR X (binaryOp .Mult) (rI (fun i j => mulOk i j = true) fun i j => .int (i * j)) := opI fun i j _ _ _ _ _ hc q => mul_int q (by
  unfold mulOk at hc
  rcases Bool.or_eq_true_iff.mp hc with hc | hc
  · rcases Bool.or_eq_true_iff.mp hc with hc | hc
    · have b : ∀ x : Int, Builtin.Int.intBits x ≤ x.natAbs.log2 + 1 := fun x => by
        unfold Builtin.Int.intBits
        split <;> omega
      have h1 := b i
      have h2 := b j
      have h3 : i.natAbs.log2 + j.natAbs.log2 < 100000000 := of_decide_eq_true hc
      have e : bitsLine = 134217728 := by decide
      unfold IntMulOk
      intro z
      rw [Bool.and_eq_true] at z
      have z2 := z.2
      unfold Builtin.Int.intTooBig at z2
      have z3 := of_decide_eq_true z2
      rw [e] at z3
      omega
    · exact L2.CMul.ok (.inr (of_decide_eq_true hc))
  · exact L2.CMul.ok (.inl (of_decide_eq_true hc)))
theorem op_fdivM : OpR X (binaryOp .FloorDiv) (rI (fun _ j => j ≠ 0 ∧ j.natAbs.log2 < 9000) fun i j => .int (i.fdiv j)) := opI fun i j _ _ _ _ _ hc q => floordiv_int hc.1 q (.inl (PyProof.noPylong_of_log2 hc.2))
theorem op_catR : OpR X (binaryOp .Add) (fun x y H Q => ∃ l b xs zs, x = .ref l ∧ y = .ref b ∧ Rd H l (.lst xs) ∧ Rd H b (.lst zs) ∧ xs.length + zs.length ≤ sizeLine ∧ ∀ p, H p = none → Q (.ref p) (upd H p (.lst (xs ++ zs)))) := by
  intro pins s σ H x y v u Q I rx ry h
  obtain ⟨l, b, xs, zs, rfl, rfl, hH, hB, hz, q⟩ := h
  cases rx
  cases ry
  obtain ⟨z, its, n, r, e⟩ := hH.ok I.hok
  obtain ⟨z2, its2, n2, r2, e2⟩ := hB.ok I.hok
  have hl := r.length
  have hl2 := r2.length
  refine PySem.P.add_list e e2 ?_ (by rw [List.size_toArray, List.size_toArray]; omega)
  have ea : its.toArray ++ its2.toArray = (its ++ its2).toArray := by simp
  rw [ea]
  exact ⟨.ref _, _, I.lnew (t' := s.toks) (r.append r2) (by rw [List.length_append]; omega), rfl, q _ I.fresh⟩
theorem opR_or {f : Value → Value → Sem Value} {r1 r2 : R2} (a : OpR X f r1) (b : OpR X f r2) : OpR X f (fun x y H Q => r1 x y H Q ∨ r2 x y H Q) := by
  intro pins s σ H x y v u Q I rx ry h
  rcases h with h | h
  · exact a pins s σ H x y v u Q I rx ry h
  · exact b pins s σ H x y v u Q I rx ry h
theorem opR_imp {f : Value → Value → Sem Value} {r1 r2 : R2} (a : OpR X f r1) (h : ∀ x y H Q, r2 x y H Q → r1 x y H Q) : OpR X f r2 := fun pins s σ H x y v u Q I rx ry q => a pins s σ H x y v u Q I rx ry (h _ _ _ _ q)

theorem op_addM : OpR X (binaryOp .Add) (rM2 X.K T addO) := by
  refine opR_imp (opR_or op_add (opR_or op_add_str (opR_or op_catR op_catA))) fun x y H Q h => ?_
  obtain ⟨F, oa, ob, o, sub, sa, sb, e, q⟩ := h
  unfold addO at e
  split at e
  · rename_i i j h1 h2
    cases e
    exact .inl ⟨i, j, int_of sa h1, int_of sb h2, q _ F H (Ext.refl sub) (.fz rfl)⟩
  · split at e
    · rename_i i j h1 h2
      split at e
      · rename_i hz
        cases e
        exact .inr (.inl ⟨i, j, str_of sa h1, str_of sb h2, by rw [strLen_append] at hz; exact hz, q _ F H (Ext.refl sub) (.fz rfl)⟩)
      · cases e
    · split at e
      · rename_i xs ys h1 h2
        split at e
        · rename_i hz
          cases e
          obtain ⟨a, us, ea, ra, pa⟩ := lst_of sub sa h1
          obtain ⟨b, ws, eb, rb, pb⟩ := lst_of sub sb h2
          refine .inr (.inr (.inl ⟨a, b, us, ws, ea, eb, ra, rb, by rw [pa.length, pb.length]; exact hz, fun p hp => ?_⟩))
          exact q _ F _ (Ext.own sub hp) (.lst sub hp hp (pa.append pb))
        · cases e
      · split at e
        · rename_i xs ys h1 h2
          split at e
          · rename_i hz
            cases e
            obtain ⟨a, us, ea, ra, pa⟩ := tup_of sub sa h1
            obtain ⟨b, ws, eb, rb, pb⟩ := tup_of sub sb h2
            have pab := pa.append pb
            refine .inr (.inr (.inr ⟨a, b, us, ws, ea, eb, ra, rb, by rw [pa.length, pb.length]; exact hz, fun e0 => ?_, fun _ e0 => ?_, fun _ _ p hp => ?_⟩))
            · subst e0
              obtain rfl : xs = [] := by
                have := pa.length
                exact List.length_eq_zero_iff.mp this.symm
              exact q _ F H (Ext.refl sub) (.fz (tup_rep sb h2 eb))
            · subst e0
              obtain rfl : ys = [] := by
                have := pb.length
                exact List.length_eq_zero_iff.mp this.symm
              rw [List.append_nil] at q
              exact q _ F H (Ext.refl sub) (.fz (tup_rep sa h1 ea))
            · exact q _ _ _ (Ext.new sub hp) (.tup sub hp pab)
          · cases e
        · cases e
theorem op_subM : OpR X (binaryOp .Sub) (rM2 X.K T subO) := by
  refine opR_imp op_sub fun x y H Q h => ?_
  obtain ⟨F, oa, ob, o, sub, sa, sb, e, q⟩ := h
  unfold subO at e
  split at e
  · rename_i i j h1 h2
    cases e
    exact ⟨i, j, int_of sa h1, int_of sb h2, q _ F H (Ext.refl sub) (.fz rfl)⟩
  · cases e
theorem op_fdivMM : OpR X (binaryOp .FloorDiv) (rM2 X.K T fdivO) := by
  refine opR_imp op_fdivM fun x y H Q h => ?_
  obtain ⟨F, oa, ob, o, sub, sa, sb, e, q⟩ := h
  unfold fdivO at e
  split at e
  · rename_i i j h1 h2
    split at e
    · rename_i hc
      cases e
      exact ⟨i, j, int_of sa h1, int_of sb h2, hc, q _ F H (Ext.refl sub) (.fz rfl)⟩
    · cases e
  · cases e
theorem op_modMM : OpR X (binaryOp .Mod) (rM2 X.K T modO) := by
  refine opR_imp op_modN fun x y H Q h => ?_
  obtain ⟨F, oa, ob, o, sub, sa, sb, e, q⟩ := h
  unfold modO at e
  split at e
  · rename_i i j h1 h2
    split at e
    · rename_i hc
      cases e
      exact ⟨i, j, int_of sa h1, int_of sb h2, hc, q _ F H (Ext.refl sub) (.fz rfl)⟩
    · cases e
  · cases e
theorem op_powMM : OpR X (binaryOp .Pow) (rM2 X.K T powO) := by
  refine opR_imp op_pow fun x y H Q h => ?_
  obtain ⟨F, oa, ob, o, sub, sa, sb, e, q⟩ := h
  unfold powO at e
  split at e
  · rename_i i j h1 h2
    split at e
    · rename_i hc
      cases e
      exact ⟨i, j, int_of sa h1, int_of sb h2, hc, q _ F H (Ext.refl sub) (.fz rfl)⟩
    · cases e
  · cases e
theorem op_cmpMM {op : CmpOp} {p : Int → Int → Bool} (h : OpR X (compareOp op) (rI0 fun i j => .bl (p i j))) : OpR X (compareOp op) (rM2 X.K T (cmpO p)) := by
  refine opR_imp h fun x y H Q h => ?_
  obtain ⟨F, oa, ob, o, sub, sa, sb, e, q⟩ := h
  unfold cmpO at e
  split at e
  · rename_i i j h1 h2
    cases e
    exact ⟨i, j, int_of sa h1, int_of sb h2, q _ F H (Ext.refl sub) (.fz rfl)⟩
  · cases e
/-- a list of frozen items times an int -/
theorem op_repR : OpR X (binaryOp .Mult) (fun x y H Q => ∃ l k xs, x = .ref l ∧ y = .int k ∧ H l = some (.lst xs) ∧ -(2 ^ 62) ≤ k ∧ k < 2 ^ 62 ∧ xs.length * k.toNat ≤ sizeLine ∧
    ∀ p, H p = none → Q (.ref p) (upd H p (.lst (List.replicate k.toNat xs).flatten))) := by
  refine opR_imp op_rep fun x y H Q h => ?_
  obtain ⟨l, k, xs, e1, e2, e3, a, b, c, q⟩ := h
  exact ⟨l, k, xs, e1, e2, e3, by omega, by omega, c, q⟩
theorem Reps.rep {K : PySem.W.Frag} {F : Hp} {ds : List D} {vs : List V} (h : Reps K T F ds vs) : ∀ n : Nat, Reps K T F (List.replicate n ds).flatten (List.replicate n vs).flatten
  | 0 => rfl
  | n + 1 => by
    rw [List.replicate_succ, List.replicate_succ, List.flatten_cons, List.flatten_cons]
    exact h.append (Reps.rep h n)
/-- an owned list of frozen items, where it stands -/
theorem own_of {K : PySem.W.Frag} {F H : Hp} {o : O} {v : V} {ds : List D} (s : See K T F H o v) (h : ownL? o = some ds) : ∃ a xs, v = .ref a ∧ H a = some (.lst xs) ∧ Reps K T F ds xs := by
  obtain ⟨fp, s⟩ := s
  match o, h with
  | .lst os, h =>
    obtain ⟨a, xs, fq, e, ha, hf, r, n, ef⟩ := s
    exact ⟨a, xs, e, ha, fzs_reps h r⟩
theorem op_mulMM : OpR X (binaryOp .Mult) (rM2 X.K T mulO) := by
  refine opR_imp (opR_or op_mulM op_repR) fun x y H Q h => ?_
  obtain ⟨F, oa, ob, o, sub, sa, sb, e, q⟩ := h
  unfold mulO at e
  split at e
  · rename_i i j h1 h2
    split at e
    · rename_i hc
      cases e
      exact .inl ⟨i, j, int_of sa h1, int_of sb h2, hc, q _ F H (Ext.refl sub) (.fz rfl)⟩
    · cases e
  · split at e
    · rename_i ds j h1 h2
      split at e
      · rename_i hc
        cases e
        obtain ⟨a, xs, ea, ha, r⟩ := own_of sa h1
        refine .inr ⟨a, j, xs, ea, int_of sb h2, ha, hc.1, hc.2.1, by rw [r.length]; exact hc.2.2, fun p hp => ?_⟩
        exact q _ F _ (Ext.own sub hp) (.lst sub hp hp (r.rep _))
      · cases e
    · cases e
mutual
theorem Rep.dp {K : PySem.W.Frag} {H : Hp} : ∀ (d : D) (v : V), d.plain = true → Rep K T H d v → Dp K H v d.py
  | .non, v, _, h => by rw [show v = _ from h]; exact .non
  | .bl b, v, _, h => by rw [show v = _ from h]; exact .bl b
  | .int i, v, _, h => by rw [show v = _ from h]; exact .int i
  | .str s, v, _, h => by rw [show v = _ from h]; exact .str s
  | .lst ds, v, p, h => by
    obtain ⟨a, xs, e, r, q⟩ := h
    rw [e]
    exact .lst (.inl r) (Reps.dp ds xs p q)
  | .tup ds, v, p, h => by
    obtain ⟨a, xs, e, r, q⟩ := h
    rw [e]
    exact .tup r (Reps.dp ds xs p q)
  | .ins _ _ _, _, p, _ => by cases p
  | .fn _, _, p, _ => by cases p
theorem Reps.dp {K : PySem.W.Frag} {H : Hp} : ∀ (ds : List D) (vs : List V), D.plains ds = true → Reps K T H ds vs → DpAll K H vs (D.pys ds)
  | [], vs, _, h => by rw [show vs = _ from h]; exact .nil
  | d :: ds, vs, p, h => by
    obtain ⟨v, r, e, a, b⟩ := h
    have p' := Bool.and_eq_true_iff.mp p
    rw [e]
    exact .cons (Rep.dp d v p'.1 a) (Reps.dp ds r p'.2 b)
end
theorem See.rep {K : PySem.W.Frag} {F H : Hp} {o : O} {v : V} (sub : Same F H) (s : See K T F H o v) : Rep K T H o.d v := by
  obtain ⟨fp, h⟩ := s
  exact h.see sub
theorem eok_d {d : D} (h : d.eok = true) : d.plain = true ∧ SeqAt.shaped d.py = true := Bool.and_eq_true_iff.mp h
theorem op_eqMM (hu : X.A.units + 64 < cLine) : OpR X (compareOp .Eq) (rM2 X.K T (eqO false)) := by
  refine opR_imp (op_eqD hu) fun x y H Q h => ?_
  obtain ⟨F, oa, ob, o, sub, sa, sb, e, q⟩ := h
  unfold eqO at e
  split at e
  · rename_i hc
    cases e
    obtain ⟨p1, p2⟩ := Bool.and_eq_true_iff.mp hc
    exact ⟨_, _, Rep.dp _ _ (eok_d p1).1 (sa.rep sub), Rep.dp _ _ (eok_d p2).1 (sb.rep sub), (eok_d p1).2, (eok_d p2).2, q _ F H (Ext.refl sub) (.fz rfl)⟩
  · cases e
theorem op_neMM (hu : X.A.units + 64 < cLine) : OpR X (compareOp .NotEq) (rM2 X.K T (eqO true)) := by
  refine opR_imp (op_neD hu) fun x y H Q h => ?_
  obtain ⟨F, oa, ob, o, sub, sa, sb, e, q⟩ := h
  unfold eqO at e
  split at e
  · rename_i hc
    cases e
    obtain ⟨p1, p2⟩ := Bool.and_eq_true_iff.mp hc
    exact ⟨_, _, Rep.dp _ _ (eok_d p1).1 (sa.rep sub), Rep.dp _ _ (eok_d p2).1 (sb.rep sub), (eok_d p1).2, (eok_d p2).2, q _ F H (Ext.refl sub) (.fz rfl)⟩
  · cases e
theorem flat_rep {K : PySem.W.Frag} {F : Hp} {d : D} {v : V} (f : flatD d = true) (h : Rep K T F d v) : flatV v = true := by
  cases d with
  | non => rw [show v = _ from h]; rfl
  | bl b => rw [show v = _ from h]; rfl
  | int i => rw [show v = _ from h]; rfl
  | str s => rw [show v = _ from h]; rfl
  | lst _ => cases f
  | tup _ => cases f
  | ins _ _ _ => cases f
  | fn _ => cases f
theorem eqV_rep {K : PySem.W.Frag} {F G : Hp} {d e : D} {v u : V} (fd : flatD d = true) (fe : flatD e = true) (h : Rep K T F d v) (g : Rep K T G e u) : eqV v u = d.eqv e := by
  cases d <;> first | (cases fd; done) | skip
  all_goals (rw [show v = _ from h])
  all_goals (cases e <;> first | (cases fe; done) | skip)
  all_goals (rw [show u = _ from g]; rfl)
theorem flats_rep {K : PySem.W.Frag} {F : Hp} : ∀ {ds : List D} {vs : List V}, ds.all flatD = true → Reps K T F ds vs → vs.all flatV = true
  | [], vs, _, h => by rw [show vs = _ from h]; rfl
  | d :: ds, vs, f, h => by
    obtain ⟨v, r, e, a, b⟩ := h
    rw [List.all_cons, Bool.and_eq_true] at f
    rw [e, List.all_cons, flat_rep f.1 a, flats_rep f.2 b]
    rfl
theorem inV_rep {K : PySem.W.Frag} {F G : Hp} {x : D} {v : V} (fx : flatD x = true) (h : Rep K T G x v) : ∀ {ds : List D} {vs : List V}, ds.all flatD = true → Reps K T F ds vs → inV v vs = inD x ds
  | [], vs, _, h => by rw [show vs = _ from h]; rfl
  | d :: ds, vs, f, q => by
    obtain ⟨w, r, e, a, b⟩ := q
    rw [List.all_cons, Bool.and_eq_true] at f
    have ih := inV_rep fx h f.2 b
    rw [e]
    unfold inV inD at ih ⊢
    rw [List.any_cons, List.any_cons, eqV_rep f.1 fx a h, ih]
theorem op_inMM (neg : Bool) : OpR X (compareOp (if neg then .NotIn else .In)) (rM2 X.K T (inO neg)) := by
  have hs : OpR X (compareOp (if neg then .NotIn else .In)) (fun x y H Q => (∃ (c : Nat) (z : Str), x = .str ⟨#[c]⟩ ∧ y = .str z ∧ Q (.bl (if neg then !decide (c ∈ z.cps.toList) else decide (c ∈ z.cps.toList))) H) ∨ rIn X.K neg x y H Q) := by
    cases neg with
    | false => exact opR_or op_in_sign op_in_seq
    | true => exact opR_or op_notIn_sign op_notIn_seq
  refine opR_imp hs fun x y H Q h => ?_
  obtain ⟨F, oa, ob, o, sub, sa, sb, e, q⟩ := h
  unfold inO at e
  split at e
  · rename_i s z h1 h2
    split at e
    · rename_i hc
      cases e
      obtain ⟨l⟩ := s
      have hl : l.size = 1 := by simpa [oneSign, Str.length] using hc
      obtain ⟨c, rfl⟩ : ∃ c, l = #[c] := Array.size_eq_one_iff.mp hl
      refine .inl ⟨c, z, str_of sa h1, str_of sb h2, ?_⟩
      have e1 : z.cps.toList.contains c = decide (c ∈ z.cps.toList) := by
        by_cases hm : c ∈ z.cps.toList
        · rw [decide_eq_true hm]; simpa using hm
        · rw [decide_eq_false hm]; simpa using hm
      have q' := q _ F H (Ext.refl sub) (.fz rfl)
      have e0 : (#[c] : Array Nat).toList.getD 0 0 = c := rfl
      rw [e0, e1] at q'
      exact q'
    · cases e
  · split at e
    · rename_i xs h2
      split at e
      · rename_i hc
        cases e
        obtain ⟨f1, f2⟩ := Bool.and_eq_true_iff.mp hc
        obtain ⟨a, us, eb, hq, r⟩ := seq_of sub sb h2
        refine .inr ⟨a, us, eb, hq, flat_rep f1 (sa.rep sub), flats_rep f2 r, ?_⟩
        rw [inV_rep f1 (sa.rep sub) f2 r]
        exact q _ F H (Ext.refl sub) (.fz rfl)
      · cases e
    · cases e
end
end Ml

set_option Elab.async false
set_option linter.all false
set_option maxRecDepth 100000
set_option maxHeartbeats 4000000
/-! M3: truth, places, slices and the built-ins by the meaning of M1. -/
namespace Ml
open PySem PySem.Spec PyProof.Rows L2

section
variable {X : Cx} {T : Tb}
theorem op_isnM : OpR X (compareOp .Is) (fun x y H Q => y = .non ∧ ∃ F oa, Same F H ∧ See X.K T F H oa x ∧ Q (.bl (isNone oa)) H) := by
  refine opR_imp op_isN fun x y H Q h => ?_
  obtain ⟨e, F, oa, sub, s, q⟩ := h
  refine ⟨e, ?_⟩
  have z : decide (x = V.non) = isNone oa := by
    obtain ⟨fp, s⟩ := s
    match oa, s with
    | .fz .non, s => rw [show x = _ from s.1]; rfl
    | .fz (.bl b), s => rw [show x = _ from s.1]; rfl
    | .fz (.int b), s => rw [show x = _ from s.1]; rfl
    | .fz (.str b), s => rw [show x = _ from s.1]; rfl
    | .fz (.fn b), s => rw [show x = _ from s.1]; rfl
    | .fz (.lst b), s => obtain ⟨⟨a, xs, e, _⟩, _⟩ := s; rw [e]; rfl
    | .fz (.tup b), s => obtain ⟨⟨a, xs, e, _⟩, _⟩ := s; rw [e]; rfl
    | .fz (.ins _ _ _), s => obtain ⟨⟨a, _, _, e, _⟩, _⟩ := s; rw [e]; rfl
    | .lst _, s => obtain ⟨a, _, _, e, _⟩ := s; rw [e]; rfl
    | .ins _ _ _, s => obtain ⟨a, _, _, _, e, _⟩ := s; rw [e]; rfl
  rw [z]
  exact q
theorem none_see {K : PySem.W.Frag} {F H : Hp} {oa : O} {x : V} (s : See K T F H oa x) : decide (x = V.non) = isNone oa := by
  obtain ⟨fp, s⟩ := s
  match oa, s with
  | .fz .non, s => rw [show x = _ from s.1]; rfl
  | .fz (.bl b), s => rw [show x = _ from s.1]; rfl
  | .fz (.int b), s => rw [show x = _ from s.1]; rfl
  | .fz (.str b), s => rw [show x = _ from s.1]; rfl
  | .fz (.fn b), s => rw [show x = _ from s.1]; rfl
  | .fz (.lst b), s => obtain ⟨⟨a, xs, e, _⟩, _⟩ := s; rw [e]; rfl
  | .fz (.tup b), s => obtain ⟨⟨a, xs, e, _⟩, _⟩ := s; rw [e]; rfl
  | .fz (.ins _ _ _), s => obtain ⟨⟨a, _, _, e, _⟩, _⟩ := s; rw [e]; rfl
  | .lst _, s => obtain ⟨a, _, _, e, _⟩ := s; rw [e]; rfl
  | .ins _ _ _, s => obtain ⟨a, _, _, _, e, _⟩ := s; rw [e]; rfl
theorem truth_see {K : PySem.W.Frag} {F H : Hp} {oa : O} {x : V} {b : Bool} (sub : Same F H) (s : See K T F H oa x) (h : truth oa = some b) : TruV K x H b := by
  obtain ⟨fp, s⟩ := s
  match oa, s, h with
  | .fz .non, s, h => cases h; rw [show x = _ from s.1]; exact rfl
  | .fz (.bl _), s, h => cases h; rw [show x = _ from s.1]; exact rfl
  | .fz (.int _), s, h => cases h; rw [show x = _ from s.1]; exact rfl
  | .fz (.str y), s, h =>
    rw [show x = _ from s.1]
    simp only [truth] at h
    split at h
    · rename_i hz
      cases h
      refine ⟨hz, ?_⟩
      cases y.length <;> rfl
    · cases h
  | .fz (.lst ds), s, h =>
    cases h
    obtain ⟨⟨a, xs, e, r, q⟩, _⟩ := s
    rw [e]
    refine .inl ⟨xs, .inl (rd_mono sub r), ?_⟩
    have := q.length
    cases ds <;> cases xs <;> first | rfl | simp at this
  | .fz (.tup ds), s, h =>
    cases h
    obtain ⟨⟨a, xs, e, r, q⟩, _⟩ := s
    rw [e]
    refine .inr (.inl ⟨xs, sqt_mono sub r, ?_⟩)
    have := q.length
    cases ds <;> cases xs <;> first | rfl | simp at this
  | .lst os, s, h =>
    cases h
    obtain ⟨a, xs, fq, e, ha, hf, r, n, ef⟩ := s
    rw [e]
    refine .inl ⟨xs, .inl (.inl ha), ?_⟩
    have := r.length
    cases os <;> cases xs <;> first | rfl | simp at this

/-- a[i] -/
def rIxM (K : PySem.W.Frag) (T : Tb) : R2 := fun x y H Q => ∃ F oa ob o, Same F H ∧ See K T F H oa x ∧ See K T F H ob y ∧ ixO oa ob = some o ∧ ∀ v, See K T F H o v → Q v H
theorem ixR_or {r1 r2 : R2} (a : IxR X r1) (b : IxR X r2) : IxR X (fun x y H Q => r1 x y H Q ∨ r2 x y H Q) := by
  intro value slice pins s σ H x y v u Q I rx ry h hs
  rcases h with h | h
  · exact a value slice pins s σ H x y v u Q I rx ry h hs
  · exact b value slice pins s σ H x y v u Q I rx ry h hs
theorem ixR_imp {r1 r2 : R2} (a : IxR X r1) (h : ∀ x y H Q, r2 x y H Q → r1 x y H Q) : IxR X r2 := fun value slice pins s σ H x y v u Q I rx ry q hs => a value slice pins s σ H x y v u Q I rx ry (h _ _ _ _ q) hs
theorem atI_some {α : Type} {xs : List α} {i : Int} {x : α} (h : atI xs i = some x) : ∃ j, ixN xs.length i = some j ∧ xs[j]? = some x := by
  unfold atI at h
  cases e : ixN xs.length i with
  | none => rw [e] at h; cases h
  | some j => rw [e] at h; exact ⟨j, rfl, h⟩
theorem atI_of {α β : Type} {xs : List α} {ys : List β} {i : Int} {j : Nat} {y : β} (hl : ys.length = xs.length) (h : ixN xs.length i = some j) (e : ys[j]? = some y) : atI ys i = some y := by
  unfold atI
  rw [hl, h]
  exact e
theorem ix_M : IxR X (rIxM X.K T) := by
  refine ixR_imp (ixR_or ix_list (ixR_or ix_tup ix_str)) fun x y H Q h => ?_
  obtain ⟨F, oa, ob, o, sub, sa, sb, e, q⟩ := h
  unfold ixO at e
  split at e
  · cases e
  · rename_i k hk
    have ey := int_of sb hk
    split at e
    · rename_i z hz
      have ex := str_of sa hz
      split at e
      · rename_i hl
        split at e
        · rename_i c hc
          cases e
          exact .inr (.inr ⟨z, k, c, ex, ey, hl, hc, q _ ⟨[], rfl, rfl⟩⟩)
        · cases e
      · cases e
    · split at e
      · rename_i os hos
        obtain ⟨a, xs, fp, ea, hq, r⟩ := items_of sub sa hos
        obtain ⟨j, h1, h2⟩ := atI_some e
        obtain ⟨v, f1, h3, h4, _⟩ := RepOs.get r h2
        have hv := atI_of r.length h1 h3
        rcases hq with hq | hq
        · exact .inl ⟨a, xs, k, v, ea, ey, hq, hv, q v ⟨f1, h4⟩⟩
        · exact .inr (.inl ⟨a, xs, k, v, ea, ey, hq, hv, q v ⟨f1, h4⟩⟩)
      · cases e
/-- a[lo:hi] -/
def rSlM (K : PySem.W.Frag) (T : Tb) : V → Option Int → Option Int → Hp → VK → Prop := fun x lo hi H Q => ∃ F oa o, Same F H ∧ See K T F H oa x ∧ slO oa lo hi = some o ∧ ∀ v F' H', Ext F H F' H' → NewR K T H F' H' o v → Q v H'
theorem slR_imp {r1 r2 : V → Option Int → Option Int → Hp → VK → Prop} (a : SlR X r1) (h : ∀ x lo hi H Q, r2 x lo hi H Q → r1 x lo hi H Q) : SlR X r2 := fun pins s σ H x v vl vu lo hi sl Q I rx hs pl pu q =>
  a pins s σ H x v vl vu lo hi sl Q I rx hs pl pu (h _ _ _ _ _ q)
theorem Reps.take {K : PySem.W.Frag} {F : Hp} : ∀ {ds : List D} {vs : List V} (n : Nat), Reps K T F ds vs → Reps K T F (ds.take n) (vs.take n)
  | _, _, 0, _ => by simp [Reps]
  | [], _, n + 1, h => by rw [show _ = _ from h]; simp [Reps]
  | d :: ds, _, n + 1, h => by
    obtain ⟨v, r, e, a, b⟩ := h
    rw [e]
    exact ⟨v, r.take n, rfl, a, Reps.take n b⟩
theorem Reps.drop {K : PySem.W.Frag} {F : Hp} : ∀ {ds : List D} {vs : List V} (n : Nat), Reps K T F ds vs → Reps K T F (ds.drop n) (vs.drop n)
  | _, _, 0, h => h
  | [], _, n + 1, h => by rw [show _ = _ from h]; simp [Reps]
  | d :: ds, _, n + 1, h => by
    obtain ⟨v, r, e, a, b⟩ := h
    rw [e]
    exact Reps.drop n b
theorem Reps.cut {K : PySem.W.Frag} {F : Hp} {ds : List D} {vs : List V} (lo hi : Option Int) (h : Reps K T F ds vs) : Reps K T F (cutD ds lo hi) (cutV vs lo hi) := by
  unfold cutD cutV
  rw [h.length]
  exact (h.drop _).take _
theorem sl_M : SlR X (rSlM X.K T) := by
  refine slR_imp (SlR.or sl_str (SlR.or sl_list sl_tupA)) fun x lo hi H Q h => ?_
  obtain ⟨F, oa, o, sub, sa, e, q⟩ := h
  unfold slO at e
  split at e
  · rename_i z hz
    split at e
    · rename_i hl
      cases e
      exact .inl ⟨z, str_of sa hz, hl, q _ F H (Ext.refl sub) (.fz rfl)⟩
    · cases e
  · split at e
    · rename_i xs hx
      cases e
      obtain ⟨a, us, ea, ra, r⟩ := lst_of sub sa hx
      exact .inr (.inl ⟨a, us, ea, .inl ra, fun p hp => q _ F _ (Ext.own sub hp) (.lst sub hp hp (r.cut lo hi))⟩)
    · split at e
      · rename_i xs hx
        cases e
        obtain ⟨a, us, ea, ra, r⟩ := tup_of sub sa hx
        refine .inr (.inr ⟨a, us, ea, ra, fun hw => ?_, fun _ p hp => q _ _ _ (Ext.new sub hp) (.tup sub hp (r.cut lo hi))⟩)
        have e1 : cutD xs lo hi = xs := by
          have h1 := hw.1
          have h2 := hw.2
          rw [r.length] at h1 h2
          unfold cutD
          rw [h1, h2]
          simp
        rw [e1] at q
        exact q _ F H (Ext.refl sub) (.fz (tup_rep sa hx ea))
      · cases e

/-! ### built-ins -/
def Sees (K : PySem.W.Frag) (T : Tb) (F H : Hp) : List O → List V → Prop
  | [], vs => vs = []
  | o :: os, vs => ∃ v r, vs = v :: r ∧ See K T F H o v ∧ Sees K T F H os r
def rB (K : PySem.W.Frag) (T : Tb) (b : Bi) : List V → Hp → VK → Prop := fun vs H Q => ∃ F os o, Same F H ∧ Sees K T F H os vs ∧ bi b os = some o ∧ ∀ v F' H', Ext F H F' H' → NewR K T H F' H' o v → Q v H'
theorem callR_imp {f : Value} {r1 r2 : List V → Hp → VK → Prop} (a : CallR X f r1) (h : ∀ vs H Q, r2 vs H Q → r1 vs H Q) : CallR X f r2 := fun pins s σ H vs us Q I r q => a pins s σ H vs us Q I r (h _ _ _ q)
theorem callR_or {f : Value} {r1 r2 : List V → Hp → VK → Prop} (a : CallR X f r1) (b : CallR X f r2) : CallR X f (fun vs H Q => r1 vs H Q ∨ r2 vs H Q) := by
  intro pins s σ H vs us Q I r h
  rcases h with h | h
  · exact a pins s σ H vs us Q I r h
  · exact b pins s σ H vs us Q I r h
theorem bi_len : CallR X (.builtin "len") (rB X.K T .len) := by
  refine callR_imp (callR_or call_len_str call_len_seq) fun vs H Q h => ?_
  obtain ⟨F, os, o, sub, ss, e, q⟩ := h
  match os, ss, e with
  | [a], ⟨v, r, ev, s, er⟩, e =>
    rw [show r = _ from er] at ev
    simp only [bi] at e
    split at e
    · rename_i z hz
      split at e
      · rename_i hl
        cases e
        exact .inl ⟨z, by rw [ev, str_of s hz], hl, q _ F H (Ext.refl sub) (.fz rfl)⟩
      · cases e
    · split at e
      · rename_i its hi
        cases e
        obtain ⟨p, xs, fp, ea, hq, r'⟩ := items_of sub s hi
        refine .inr ⟨p, xs, by rw [ev, ea], hq, ?_⟩
        rw [r'.length]
        exact q _ F H (Ext.refl sub) (.fz rfl)
      · cases e
  | [], _, e => cases e
  | _ :: _ :: _, _, e => cases e
theorem bi_int : CallR X (.type "int") (rB X.K T .int_) := by
  refine callR_imp (callR_or call_int1 call_int_str) fun vs H Q h => ?_
  obtain ⟨F, os, o, sub, ss, e, q⟩ := h
  match os, ss, e with
  | [a], ⟨v, r, ev, s, er⟩, e =>
    rw [show r = _ from er] at ev
    simp only [bi] at e
    split at e
    · rename_i z hz
      cases e
      exact .inl (.inl ⟨z, by rw [ev, int_of s hz], q _ F H (Ext.refl sub) (.fz rfl)⟩)
    · split at e
      · rename_i b hb
        cases e
        exact .inl (.inr ⟨b, by rw [ev, bl_of s hb], q _ F H (Ext.refl sub) (.fz rfl)⟩)
      · split at e
        · rename_i z hz
          split at e
          · rename_i n hn
            split at e
            · rename_i hl
              cases e
              exact .inr ⟨z, n, by rw [ev, str_of s hz], hn, hl, q _ F H (Ext.refl sub) (.fz rfl)⟩
            · cases e
          · cases e
        · cases e
  | [], _, e => cases e
  | _ :: _ :: _, _, e => cases e
theorem bi_abs : CallR X (.builtin "abs") (rB X.K T .abs) := by
  refine callR_imp call_abs fun vs H Q h => ?_
  obtain ⟨F, os, o, sub, ss, e, q⟩ := h
  match os, ss, e with
  | [a], ⟨v, r, ev, s, er⟩, e =>
    rw [show r = _ from er] at ev
    simp only [bi] at e
    split at e
    · rename_i z hz
      cases e
      exact ⟨z, by rw [ev, int_of s hz], q _ F H (Ext.refl sub) (.fz rfl)⟩
    · cases e
  | [], _, e => cases e
  | _ :: _ :: _, _, e => cases e
theorem seq_rep {K : PySem.W.Frag} {F H : Hp} {o : O} {v : V} {ds : List D} (s : See K T F H o v) (h : seq? o = some ds) {a : Addr} {xs : List V} (e : v = .ref a) (hq : SqT K H a xs) (no : ∀ ys, ¬ SqL K H a ys) (sub : Same F H) : Rep K T F (.tup ds) (.ref a) := by
  obtain ⟨fp, s⟩ := s
  match o, h with
  | .fz (.tup j), h =>
    cases h
    rw [← e]
    exact s.1
  | .fz (.lst j), h =>
    obtain ⟨⟨b, ys, e2, r, _⟩, _⟩ := s
    rw [e] at e2
    cases e2
    exact absurd (.inl (rd_mono sub r)) (no ys)
  | .lst os, h =>
    obtain ⟨b, ys, fq, e2, hb, _⟩ := s
    rw [e] at e2
    cases e2
    exact absurd (.inl (.inl hb)) (no ys)
/-- a list, or a tuple, with what it holds -/
theorem seq_two {K : PySem.W.Frag} {F H : Hp} {o : O} {v : V} {ds : List D} (sub : Same F H) (s : See K T F H o v) (h : seq? o = some ds) :
    ∃ a xs, v = .ref a ∧ Reps K T F ds xs ∧ (SqL K H a xs ∨ (SqT K H a xs ∧ Rep K T F (.tup ds) (.ref a))) := by
  obtain ⟨fp, s⟩ := s
  match o, h with
  | .fz (.lst j), h =>
    cases h
    obtain ⟨a, xs, e, q, r⟩ := s.1
    exact ⟨a, xs, e, r, .inl (.inl (rd_mono sub q))⟩
  | .fz (.tup j), h =>
    cases h
    have s1 := s.1
    obtain ⟨a, xs, e, q, r⟩ := s.1
    exact ⟨a, xs, e, r, .inr ⟨sqt_mono sub q, by rw [← e]; exact s1⟩⟩
  | .lst os, h =>
    obtain ⟨a, xs, fq, e, ha, hf, r, n, ef⟩ := s
    exact ⟨a, xs, e, fzs_reps h r, .inl (.inl (.inl ha))⟩
theorem bi_tuple : CallR X (.type "tuple") (rB X.K T .tuple) := by
  refine callR_imp call_tuple_of fun vs H Q h => ?_
  obtain ⟨F, os, o, sub, ss, e, q⟩ := h
  match os, ss, e with
  | [a], ⟨v, r, ev, s, er⟩, e =>
    rw [show r = _ from er] at ev
    simp only [bi] at e
    split at e
    · rename_i ds hd
      cases e
      obtain ⟨p, xs, ea, rs, hq⟩ := seq_two sub s hd
      refine ⟨p, xs, by rw [ev, ea], ?_⟩
      rcases hq with hq | ⟨hq, hr⟩
      · exact .inl ⟨hq, fun l hl => q _ _ _ (Ext.new sub hl) (.tup sub hl rs)⟩
      · exact .inr ⟨hq, q _ F H (Ext.refl sub) (.fz hr)⟩
    · cases e
  | [], _, e => cases e
  | _ :: _ :: _, _, e => cases e
theorem bi_list : CallR X (.type "list") (rB X.K T .list) := by
  refine callR_imp call_list_of fun vs H Q h => ?_
  obtain ⟨F, os, o, sub, ss, e, q⟩ := h
  match os, ss, e with
  | [a], ⟨v, r, ev, s, er⟩, e =>
    rw [show r = _ from er] at ev
    simp only [bi] at e
    split at e
    · rename_i ds hd
      cases e
      obtain ⟨p, xs, ea, hq, rs⟩ := seq_of sub s hd
      exact ⟨p, xs, by rw [ev, ea], hq, fun l hl => q _ F _ (Ext.own sub hl) (.lst sub hl hl rs)⟩
    · cases e
  | [], _, e => cases e
  | _ :: _ :: _, _, e => cases e
theorem bi_str : CallR X (.type "str") (rB X.K T .str_) := by
  refine callR_imp call_str_int fun vs H Q h => ?_
  obtain ⟨F, os, o, sub, ss, e, q⟩ := h
  match os, ss, e with
  | [a], ⟨v, r, ev, s, er⟩, e =>
    rw [show r = _ from er] at ev
    simp only [bi] at e
    split at e
    · rename_i z hz
      split at e
      · rename_i hl
        cases e
        exact ⟨z, by rw [ev, int_of s hz], hl, q _ F H (Ext.refl sub) (.fz rfl)⟩
      · cases e
    · cases e
  | [], _, e => cases e
  | _ :: _ :: _, _, e => cases e
theorem bi_max2 (hc : X.calm = true) : CallR X (.builtin "max") (rB X.K T .max2) := by
  refine callR_imp (call_max2 hc) fun vs H Q h => ?_
  obtain ⟨F, os, o, sub, ss, e, q⟩ := h
  match os, ss, e with
  | [a, b], ⟨v, r, ev, s, v', r', ev', s', er⟩, e =>
    rw [show r' = _ from er] at ev'
    rw [ev'] at ev
    simp only [bi] at e
    split at e
    · rename_i i j hi hj
      cases e
      exact ⟨i, j, by rw [ev, int_of s hi, int_of s' hj], q _ F H (Ext.refl sub) (.fz rfl)⟩
    · cases e
  | [], _, e => cases e
  | [_], _, e => cases e
  | _ :: _ :: _ :: _, _, e => cases e
theorem bi_min2 (hc : X.calm = true) : CallR X (.builtin "min") (rB X.K T .min2) := by
  refine callR_imp (call_min2 hc) fun vs H Q h => ?_
  obtain ⟨F, os, o, sub, ss, e, q⟩ := h
  match os, ss, e with
  | [a, b], ⟨v, r, ev, s, v', r', ev', s', er⟩, e =>
    rw [show r' = _ from er] at ev'
    rw [ev'] at ev
    simp only [bi] at e
    split at e
    · rename_i i j hi hj
      cases e
      exact ⟨i, j, by rw [ev, int_of s hi, int_of s' hj], q _ F H (Ext.refl sub) (.fz rfl)⟩
    · cases e
  | [], _, e => cases e
  | [_], _, e => cases e
  | _ :: _ :: _ :: _, _, e => cases e
theorem bi_gcd : CallR X (.builtin "math.gcd") (rB X.K T .gcd) := by
  refine callR_imp cr_gcd fun vs H Q h => ?_
  obtain ⟨F, os, o, sub, ss, e, q⟩ := h
  match os, ss, e with
  | [a, b], ⟨v, r, ev, s, v', r', ev', s', er⟩, e =>
    rw [show r' = _ from er] at ev'
    rw [ev'] at ev
    simp only [bi] at e
    split at e
    · rename_i i j hi hj
      cases e
      exact ⟨i, j, by rw [ev, int_of s hi, int_of s' hj], q _ F H (Ext.refl sub) (.fz rfl)⟩
    · cases e
  | [], _, e => cases e
  | [_], _, e => cases e
  | _ :: _ :: _ :: _, _, e => cases e
theorem bls_reps {K : PySem.W.Frag} {F : Hp} : ∀ {ds : List D} {vs : List V} {bs : List Bool}, bls ds = some bs → Reps K T F ds vs → vs = bs.map V.bl
  | [], vs, bs, h, r => by cases h; exact r
  | .bl b :: ds, vs, bs, h, r => by
    obtain ⟨v, w, e, a, r'⟩ := r
    cases q : bls ds with
    | none => simp [q] at h
    | some cs =>
      simp [q] at h
      subst h
      rw [e, show v = _ from a, bls_reps q r']
      rfl
  | .non :: _, _, _, h, _ => by cases h
  | .int _ :: _, _, _, h, _ => by cases h
  | .str _ :: _, _, _, h, _ => by cases h
  | .lst _ :: _, _, _, h, _ => by cases h
  | .tup _ :: _, _, _, h, _ => by cases h
  | .ins _ _ _ :: _, _, _, h, _ => by cases h
  | .fn _ :: _, _, _, h, _ => by cases h
theorem ints_reps {K : PySem.W.Frag} {F : Hp} : ∀ {ds : List D} {vs : List V} {bs : List Int}, intsD ds = some bs → Reps K T F ds vs → vs = bs.map V.int
  | [], vs, bs, h, r => by cases h; exact r
  | .int b :: ds, vs, bs, h, r => by
    obtain ⟨v, w, e, a, r'⟩ := r
    cases q : intsD ds with
    | none => simp [q] at h
    | some cs =>
      simp [q] at h
      subst h
      rw [e, show v = _ from a, ints_reps q r']
      rfl
  | .non :: _, _, _, h, _ => by cases h
  | .bl _ :: _, _, _, h, _ => by cases h
  | .str _ :: _, _, _, h, _ => by cases h
  | .lst _ :: _, _, _, h, _ => by cases h
  | .tup _ :: _, _, _, h, _ => by cases h
  | .ins _ _ _ :: _, _, _, h, _ => by cases h
  | .fn _ :: _, _, _, h, _ => by cases h
theorem strs_reps {K : PySem.W.Frag} {F : Hp} : ∀ {ds : List D} {vs : List V} {bs : List Str}, strs' ds = some bs → Reps K T F ds vs → vs = bs.map V.str
  | [], vs, bs, h, r => by cases h; exact r
  | .str b :: ds, vs, bs, h, r => by
    obtain ⟨v, w, e, a, r'⟩ := r
    cases q : strs' ds with
    | none => simp [q] at h
    | some cs =>
      simp [q] at h
      subst h
      rw [e, show v = _ from a, strs_reps q r']
      rfl
  | .non :: _, _, _, h, _ => by cases h
  | .bl _ :: _, _, _, h, _ => by cases h
  | .int _ :: _, _, _, h, _ => by cases h
  | .lst _ :: _, _, _, h, _ => by cases h
  | .tup _ :: _, _, _, h, _ => by cases h
  | .ins _ _ _ :: _, _, _, h, _ => by cases h
  | .fn _ :: _, _, _, h, _ => by cases h
theorem bi_any (hc : X.calm = true) : CallR X (.builtin "any") (rB X.K T .any) := by
  refine callR_imp (cr_any hc) fun vs H Q h => ?_
  obtain ⟨F, os, o, sub, ss, e, q⟩ := h
  match os, ss, e with
  | [a], ⟨v, r, ev, s, er⟩, e =>
    rw [show r = _ from er] at ev
    simp only [bi] at e
    split at e
    · rename_i ds hd
      split at e
      · rename_i bs hb
        cases e
        obtain ⟨p, xs, ea, hq, rs⟩ := lst_of sub s hd
        exact ⟨p, bs, by rw [ev, ea], by rw [← bls_reps hb rs]; exact .inl hq, q _ F H (Ext.refl sub) (.fz rfl)⟩
      · cases e
    · cases e
  | [], _, e => cases e
  | _ :: _ :: _, _, e => cases e
theorem bi_all (hc : X.calm = true) : CallR X (.builtin "all") (rB X.K T .all) := by
  refine callR_imp (cr_all hc) fun vs H Q h => ?_
  obtain ⟨F, os, o, sub, ss, e, q⟩ := h
  match os, ss, e with
  | [a], ⟨v, r, ev, s, er⟩, e =>
    rw [show r = _ from er] at ev
    simp only [bi] at e
    split at e
    · rename_i ds hd
      split at e
      · rename_i bs hb
        cases e
        obtain ⟨p, xs, ea, hq, rs⟩ := lst_of sub s hd
        exact ⟨p, bs, by rw [ev, ea], by rw [← bls_reps hb rs]; exact .inl hq, q _ F H (Ext.refl sub) (.fz rfl)⟩
      · cases e
    · cases e
  | [], _, e => cases e
  | _ :: _ :: _, _, e => cases e
theorem bi_sum (hc : X.calm = true) : CallR X (.builtin "sum") (rB X.K T .sum) := by
  refine callR_imp (cr_sum hc) fun vs H Q h => ?_
  obtain ⟨F, os, o, sub, ss, e, q⟩ := h
  match os, ss, e with
  | [a], ⟨v, r, ev, s, er⟩, e =>
    rw [show r = _ from er] at ev
    simp only [bi] at e
    split at e
    · rename_i ds hd
      split at e
      · rename_i bs hb
        cases e
        obtain ⟨p, xs, ea, hq, rs⟩ := lst_of sub s hd
        exact ⟨p, bs, by rw [ev, ea], by rw [← ints_reps hb rs]; exact .inl hq, q _ F H (Ext.refl sub) (.fz rfl)⟩
      · cases e
    · cases e
  | [], _, e => cases e
  | _ :: _ :: _, _, e => cases e
end
end Ml

set_option Elab.async false
set_option linter.all false
set_option maxRecDepth 100000
set_option maxHeartbeats 4000000
/-! M4: when an expression of M1 stands for an expression of the text (okE). -/
namespace Ml
open PySem PySem.Spec PyProof.Rows L2

structure FnI where
  top : Bool
  name : Str
  np : Nat
  refs : List Nat
  kwo : Bool
structure ClI where
  name : Str
  init : List Nat
/-- what the text's module holds: constants, defs, built-ins that are still what they were -/
structure Gm where
  con : List Str
  fn : List FnI
  free : List Str
  cls : List ClI
  nms : List Str
  kw : List Kw := []
def kindB (sc : Scope) (x : Str) (l : List NameKind) : Bool := match sc.names.lookup x with
  | some k => l.contains k
  | none => false
def locB (sc : Scope) (x : Str) : Bool := match sc.names.lookup x with
  | some .local => true
  | some .cell => true
  | some .free => true
  | _ => false
def stoB (sc : Scope) (x : Str) : Bool := match sc.names.lookup x with
  | some .local => true
  | some .cell => true
  | _ => false
def gloB (sc : Scope) (x : Str) : Bool := match sc.names.lookup x with
  | some .globalImplicit => true
  | _ => false
def dbg (x : Str) : Bool := x == ("__debug__" : Str) || x == ("__classdict__" : Str)
def okC : Const → D → Bool
  | .none, .non => true
  | .bool a, .bl b => a == b
  | .int a, .int b => a == b
  | .str a, .str b => a == b
  | _, _ => false
def okOp : O2 → Operator → Bool
  | .add, .Add => true
  | .sub, .Sub => true
  | .mul, .Mult => true
  | .fdiv, .FloorDiv => true
  | .mod, .Mod => true
  | .pow, .Pow => true
  | _, _ => false
def okCmp : O2 → CmpOp → Bool
  | .lt, .Lt => true
  | .le, .LtE => true
  | .gt, .Gt => true
  | .ge, .GtE => true
  | .eq, .Eq => true
  | .ne, .NotEq => true
  | .in_, .In => true
  | .nin, .NotIn => true
  | _, _ => false
def notSet : Expr → Bool
  | .Set _ _ _ => false
  | _ => true
def notStar : Expr → Bool
  | .Starred _ _ => false
  | _ => true
def notSlice : Expr → Bool
  | .Slice _ _ _ _ => false
  | _ => true
def notCall : Expr → Bool
  | .Call (.Name _ _) [] [] _ => false
  | _ => true
/-- a test whose value's truth is asked -/
def plainT : Expr → Bool
  | .UnaryOp .Not _ _ => false
  | .BoolOp _ _ _ => false
  | .IfExp _ _ _ _ => false
  | .Compare _ _ _ _ => false
  | _ => true
/-- a built-in function's name -/
def biFn : Bi → Option (Str × Nat)
  | .len => some ("len", 1)
  | .abs => some ("abs", 1)
  | .max2 => some ("max", 2)
  | .min2 => some ("min", 2)
  | .any => some ("any", 1)
  | .all => some ("all", 1)
  | .sum => some ("sum", 1)
  | _ => none
/-- a built-in class's name -/
def biTy : Bi → Option (Str × Nat)
  | .int_ => some ("int", 1)
  | .tuple => some ("tuple", 1)
  | .list => some ("list", 1)
  | .str_ => some ("str", 1)
  | _ => none
/-- a text's method -/
def biMt : Bi → Option (Str × Nat)
  | .split => some ("split", 1)
  | .join => some ("join", 1)
  | .startswith => some ("startswith", 1)
  | .upper => some ("upper", 0)
  | _ => none
def tyName (s : String) : Bool := s == "int" || s == "bool" || s == "str" || s == "tuple" || s == "list"
mutual
/-- the target stands for the text's -/
def okTg (N : List Str) (sc : Scope) : Tg → Expr → Bool
  | .nm i, .Name x _ => decide (N[i]? = some x) && stoB sc x
  | .tp ts, .Tuple es _ _ => okTgs N sc ts es
  | _, _ => false
def okTgs (N : List Str) (sc : Scope) : List Tg → List Expr → Bool
  | [], [] => true
  | t :: ts, e :: es => okTg N sc t e && okTgs N sc ts es
  | _, _ => false
end
def ownOf (N : List Str) (is : List Nat) : List (Str × Nat) := is.map fun i => (N.getD i "", i)
mutual
def okE (M : Gm) (lim : Nat) (N : List Str) (sc : Scope) : E → Expr → Bool
  | .k d, .Constant c _ _ => okC c d
  | .v i, .Name x _ => decide (N[i]? = some x) && locB sc x && !dbg x
  | .g i, .Name x _ => decide (M.con[i]? = some x) && gloB sc x && !dbg x
  | .tup es, .Tuple xs _ _ => okEs M lim N sc es xs
  | .lst es, .List xs _ => okEs M lim N sc es xs
  | .o2 op a b, .BinOp x o y _ => okOp op o && okE M lim N sc a x && okE M lim N sc b y
  | .o2 op a b, .Compare x [o] [y] _ => okCmp op o && notSet y && okE M lim N sc a x && okE M lim N sc b y
  | .o1 .neg a, .UnaryOp .USub x _ => okE M lim N sc a x
  | .o1 .isn a, .Compare x [.Is] [.Constant .none _ _] _ => okE M lim N sc a x
  | .o1 .notn a, .Compare x [.IsNot] [.Constant .none _ _] _ => okE M lim N sc a x
  | .not a, .UnaryOp .Not x _ => okE M lim N sc a x
  | .and a b, .BoolOp .And (x :: y :: r) p => okE M lim N sc a x && (if r.isEmpty then okE M lim N sc b y else okE M lim N sc b (.BoolOp .And (y :: r) p))
  | .or a b, .BoolOp .Or (x :: y :: r) p => okE M lim N sc a x && (if r.isEmpty then okE M lim N sc b y else okE M lim N sc b (.BoolOp .Or (y :: r) p))
  | .ite c a b, .IfExp t x y _ => okT M lim N sc c t && okE M lim N sc a x && okE M lim N sc b y
  | .ix a i, .Subscript x s _ => notSlice s && okE M lim N sc a x && okE M lim N sc i s
  | .sl a lo hi, .Subscript x (.Slice l h none _) _ => okE M lim N sc a x && okO M lim N sc lo l && okO M lim N sc hi h
  | .call f es, .Call (.Name x _) args [] _ => decide (f < lim) && (match M.fn[f]? with
    | some i => (i.top && !i.kwo) && decide (i.name = x) && i.refs.isEmpty && (i.np == es.length)
    | none => false) && gloB sc x && !dbg x && okEs M lim N sc es args && !es.isEmpty
  | .bi b es, .Call (.Name x _) args [] _ => (match biFn b, biTy b with
    | some (n, k), _ => decide (x = n) && (es.length == k)
    | none, some (n, k) => decide (x = n) && (es.length == k)
    | none, none => false) && gloB sc x && M.free.contains x && okEs M lim N sc es args
  | .is1 (.isi [t]) a, .Call (.Name x _) [e, .Name y _] [] _ => decide (x = "isinstance") && gloB sc x && M.free.contains x && tyName t && decide (y = Str.ofString t) && gloB sc y && M.free.contains y && notStar e && okE M lim N sc a e
  | .isc c a, .Call (.Name x _) [e, .Name y _] [] _ => decide (x = "isinstance") && gloB sc x && M.free.contains x && (match M.cls[c]? with
    | some i => decide (i.name = y)
    | none => false) && gloB sc y && !dbg y && notStar e && okE M lim N sc a e
  | .mk c f es, .Call (.Name x _) args [] _ => decide (f < lim) && (match M.cls[c]?, M.fn[f]? with
    | some i, some j => decide (i.name = x) && i.init.contains f && (j.np == es.length + 1) && decide (j.refs = [0]) && !j.kwo
    | _, _ => false) && gloB sc x && !dbg x && okEs M lim N sc es args && !es.isEmpty
  | .fs es, .JoinedStr (x :: y :: r) _ => okFs M lim N sc es (x :: y :: r)
  | .fld a f, .Attribute x g _ => decide (M.nms[f]? = some g) && notCall x && okE M lim N sc a x
  | .lc elt t s src ifs, .ListComp x [⟨tg, it, cs, 0⟩] sc' _ => okE M lim N sc' elt x && okTg N sc' t tg && okTs M lim N sc' ifs cs && okI M lim N sc s src it && notSet it && blkC N sc sc' (ownOf N t.slots)
  | _, _ => false
def okEs (M : Gm) (lim : Nat) (N : List Str) (sc : Scope) : List E → List Expr → Bool
  | [], [] => true
  | c :: cs, e :: es => notStar e && okE M lim N sc c e && okEs M lim N sc cs es
  | _, _ => false
/-- the parts of an f-string -/
def okFs (M : Gm) (lim : Nat) (N : List Str) (sc : Scope) : List E → List Expr → Bool
  | [], [] => true
  | c :: cs, e :: es => (match e with
    | .FormattedValue x (-1) none _ => okE M lim N sc c x
    | .Constant (.str z) _ _ => (match c with
      | .k (.str y) => z == y
      | _ => false)
    | _ => false) && okFs M lim N sc cs es
  | _, _ => false
def okO (M : Gm) (lim : Nat) (N : List Str) (sc : Scope) : List E → Option Expr → Bool
  | [], none => true
  | [c], some e => okE M lim N sc c e
  | _, _ => false
/-- as a test -/
def okT (M : Gm) (lim : Nat) (N : List Str) (sc : Scope) : Te → Expr → Bool
  | .not a, .UnaryOp .Not x _ => okT M lim N sc a x
  | .and a b, .BoolOp .And (x :: y :: r) p => okT M lim N sc a x && (if r.isEmpty then okT M lim N sc b y else okT M lim N sc b (.BoolOp .And (y :: r) p))
  | .or a b, .BoolOp .Or (x :: y :: r) p => okT M lim N sc a x && (if r.isEmpty then okT M lim N sc b y else okT M lim N sc b (.BoolOp .Or (y :: r) p))
  | .o2 op a b, .Compare x [o] [y] _ => okCmp op o && notSet y && okE M lim N sc a x && okE M lim N sc b y
  | .o1 .isn a, .Compare x [.Is] [.Constant .none _ _] _ => okE M lim N sc a x
  | .o1 .notn a, .Compare x [.IsNot] [.Constant .none _ _] _ => okE M lim N sc a x
  | .e a, e => plainT e && okE M lim N sc a e
  | _, _ => false
/-- the tests of a comprehension: none or one -/
def okTs (M : Gm) (lim : Nat) (N : List Str) (sc : Scope) : List Te → List Expr → Bool
  | [], [] => true
  | [c], [e] => okT M lim N sc c e
  | _, _ => false
/-- what is walked -/
def okI (M : Gm) (lim : Nat) (N : List Str) (sc : Scope) : Nat → List E → Expr → Bool
  | 0, [a], e => okE M lim N sc a e
  | 1, [a], .Call (.Name x _) [e] [] _ => decide (x = "range") && gloB sc x && M.free.contains x && notStar e && okE M lim N sc a e
  | 2, [a, b], .Call (.Name x _) [e, f] [] _ => decide (x = "range") && gloB sc x && M.free.contains x && notStar e && notStar f && okE M lim N sc a e && okE M lim N sc b f
  | _, _, _ => false
end
end Ml

set_option Elab.async false
set_option linter.all false
set_option maxRecDepth 100000
set_option maxHeartbeats 4000000
/-! M5: an expression that stands for one of the text gives what M1 says. -/
namespace Ml
open PySem PySem.Spec PyProof.Rows L2

/-- each slot that holds something holds it -/
structure SRel (K : PySem.W.Frag) (T : Tb) (F H : Hp) (σ : L2.St) (st : Ml.St) : Prop where
  len : σ.length = st.length
  at_ : ∀ (i : Nat) (o : O), st[i]? = some (some o) → ∃ v, σ[i]? = some (some v) ∧ See K T F H o v
theorem SRel.ext {K : PySem.W.Frag} {T : Tb} {F H F' H' : Hp} {σ : L2.St} {st : Ml.St} (x : Ext F H F' H') (s : SRel K T F H σ st) : SRel K T F' H' σ st := ⟨s.len, fun i o e => by
  obtain ⟨v, h1, h2⟩ := s.at_ i o e
  exact ⟨v, h1, h2.ext x⟩⟩
/-- an exception of the class x with the fields ds is what is wished -/
def ExcW (K : PySem.W.Frag) (T : Tb) (W : XK) (F H : Hp) (x : Nat) (ds : List D) : Prop :=
  ∀ F' H' d fs, Ext F H F' H' → H' d = some (.xd fs) → fs.map (·.1) = T.xn x → Reps K T F' ds (fs.map (·.2)) → W (.ref (T.cls x)) (some d) H'
theorem ExcW.ext {K : PySem.W.Frag} {T : Tb} {W : XK} {F H F1 H1 : Hp} {x : Nat} {ds : List D} (e : Ext F H F1 H1) (h : ExcW K T W F H x ds) : ExcW K T W F1 H1 x ds := fun F' H' d fs e' => h F' H' d fs (e.trans e')
def outE {α : Type} (K : PySem.W.Frag) (T : Tb) (W : XK) (F H : Hp) (r : Rs α) (k : α → Prop) : Prop := match r with
  | .ok a => k a
  | .exc x ds => ExcW K T W F H x ds
  | .bad => False
def RepR (K : PySem.W.Frag) (T : Tb) (H0 F H : Hp) (r : Rv) (v : V) : Prop := match r with
  | .my o => NewR K T H0 F H o v
  | .vw o => See K T F H o v
theorem RepR.see {K : PySem.W.Frag} {T : Tb} {H0 F H : Hp} {r : Rv} {v : V} (h : RepR K T H0 F H r v) : See K T F H r.o v := by
  cases r with
  | my o =>
    obtain ⟨fp, h, _⟩ := h
    exact ⟨fp, h⟩
  | vw o => exact h
def RepRs (K : PySem.W.Frag) (T : Tb) (H0 F H : Hp) : List Rv → List V → List Addr → Prop
  | [], vs, ms => vs = [] ∧ ms = []
  | r :: rs, vs, ms => ∃ v w f1 m2, vs = v :: w ∧ RepO K T F H r.o v f1 ∧ RepRs K T H0 F H rs w m2 ∧ (match r with
    | .my _ => (∀ a ∈ f1, H0 a = none ∧ a ∉ m2) ∧ ms = f1 ++ m2
    | .vw _ => ms = m2)
/-- the readings -/
def tE (K : PySem.W.Frag) (T : Tb) (W : XK) (G : Gl) (c : E) : TE := fun σ H Q => ∃ F st, Same F H ∧ SRel K T F H σ st ∧ outE K T W F H (ev G c st) fun r => ∀ v F' H', Ext F H F' H' → RepR K T H F' H' r v → Q v H'
def tEs (K : PySem.W.Frag) (T : Tb) (W : XK) (G : Gl) (cs : List E) : TA := fun σ H Q => ∃ F st, Same F H ∧ SRel K T F H σ st ∧ outE K T W F H (evs G cs st) fun rs => ∀ vs F' H' ms, Ext F H F' H' → RepRs K T H F' H' rs vs ms → Q vs H'
def tEo (K : PySem.W.Frag) (T : Tb) (W : XK) (G : Gl) (cs : List E) : TO := fun σ H Q => ∃ F st, Same F H ∧ SRel K T F H σ st ∧ outE K T W F H (evo G cs st) fun o => ∀ F' H', Ext F H F' H' → Q o H'
def tT (K : PySem.W.Frag) (T : Tb) (W : XK) (G : Gl) (c : Te) : TT := fun σ H Q => ∃ F st, Same F H ∧ SRel K T F H σ st ∧ outE K T W F H (et G c st) fun b => ∀ F' H', Ext F H F' H' → Q b H'
def tTs (K : PySem.W.Frag) (T : Tb) (W : XK) (G : Gl) (cs : List Te) : TT := fun σ H Q => ∃ F st, Same F H ∧ SRel K T F H σ st ∧ outE K T W F H (ets G cs st) fun b => ∀ F' H', Ext F H F' H' → Q b H'

/-- behind a def's call: what it was not lent stands -/
structure After (F H : Hp) (fp : List Addr) (F' H' : Hp) : Prop where
  ff : Same F F'
  fh : Same F' H'
  keep : ∀ a o, H a = some o → a ∉ fp → H' a = some o
  nw : ∀ a o, F' a = some o → F a = none → a ∈ fp ∨ H a = none
theorem After.ext {F H F' H' : Hp} (h : After F H [] F' H') : Ext F H F' H' := ⟨h.ff, fun a o e => h.keep a o e (fun z => nomatch z), h.fh, fun a o e n => (h.nw a o e n).resolve_left fun z => nomatch z⟩
theorem Ext.after {F H F' H' : Hp} {fp : List Addr} (h : Ext F H F' H') : After F H fp F' H' := ⟨h.ff, h.fh, fun a o e _ => h.hh a o e, fun a o e n => .inr (h.nw a o e n)⟩
/-- a def's promise by its meaning f: np arguments, those at refs lent -/
def spM (K : PySem.W.Frag) (T : Tb) (i : FnI) (f : List O → Rs (O × List O)) : Sp := fun vs H Q E => ∃ F os fp, Same F H ∧ RepOs K T F H os vs fp ∧ os.length = i.np ∧ match f os with
  | .ok (r, os') => ∀ v F' H' f1 fp', After F H fp F' H' → RepO K T F' H' r v f1 → RepOs K T F' H' os' (i.refs.map fun j => vs.getD j .non) fp' → (∀ a ∈ f1, a ∉ fp') → (∀ a, a ∈ f1 ∨ a ∈ fp' → a ∈ fp ∨ H a = none) → Q v H'
  | .exc x ds => ∀ F' H' d fs, After F H fp F' H' → H' d = some (.xd fs) → fs.map (·.1) = T.xn x → Reps K T F' ds (fs.map (·.2)) → E (.ref (T.cls x)) (some d) H'
  | .bad => False

/-- some of l, by place -/
def pick {α : Type} (pl : List Nat) (l : List α) : List α := pl.filterMap fun i => l[i]?
/-- what an expression leans on where it stands -/
structure Cap (T : Tb) (M : Gm) (G : Gl) (lim k : Nat) (N : List Str) (sc : Scope) (W : XK) (X : Cx) : Prop where
  hN : X.N = N
  nd : N.Nodup
  loc : ∀ x, locB sc x = true → Vis X.env.scope x
  sto : ∀ x, stoB sc x = true → Loc X.env.scope x ∧ (X.fn x = true ∨ X.env.scope.names.lookup x = some .local)
  glo : ∀ x, gloB sc x = true → L2.Gl X x
  cf : ∀ x, (sc.names.lookup x = some .cell ∨ sc.names.lookup x = some .free) → X.env.scope.names.lookup x = some .cell ∨ X.env.scope.names.lookup x = some .free
  calm : X.calm = true
  units : X.A.units + 64 < cLine
  room : Room (k + 1) X.A
  con : ∀ (i : Nat) (x : Str), M.con[i]? = some x → ∃ d u v, G.cons[i]? = some d ∧ X.mg x = some u ∧ RelV v u ∧ ∀ H, Rep X.K T H d v
  free : ∀ x, M.free.contains x = true → X.mg x = none
  fn : ∀ (f : Nat) (i : FnI), M.fn[f]? = some i → i.kwo = false → f < lim → ∃ fd ps, Binds X.K fd ps [] ∧ FnOk X.prog X.w X.K X.mg X.base (L2.CX X.prog X.w) k (T.fn f) fd ps (spM X.K T i (G.fs f))
  gfn : ∀ (f : Nat) (i : FnI), M.fn[f]? = some i → i.top = true → X.mg i.name = some (.ref (T.fn f)) ∧ PySem.W.keepIn X.K (.ref (T.fn f)) = true
  made : ∀ (c : Nat) (i : ClI), M.cls[c]? = some i → X.mg i.name = some (.ref (T.cls c)) ∧ ∀ f ∈ i.init, Mk X.K (T.cls c) (T.fn f)
  fl : ∀ (c f : Nat), okF G.fl c f = true → Cls X.K (T.cls c) ∧ NoAttr X.K (T.cls c) (T.nm f) ∧ f < T.nl
  inj : ∀ i j, i < T.nl → j < T.nl → T.nm i = T.nm j → i = j
  nms : ∀ (f : Nat) (x : Str), M.nms[f]? = some x → T.nm f = x
  isc : ∀ c c', c < G.fl.length → c' < G.fl.length → PySem.W.kitOne X.K (.ref (T.cls c')) (.ref (T.cls c)) = some (c' == c)
  ty : ∀ (c : Nat) (H : Hp) (a dx : Addr) (fs : List (Str × V)), c < G.fl.length → H a = some (.ins (T.cls c) dx fs) → TyOf X.K H (.ref a) (.ref (T.cls c))
  wish : Passes (L2.CX X.prog X.w) X W
  kwE : G.kw = M.kw
  kw : ∀ (m : Nat) (κ : Kw) (i : FnI), M.kw[m]? = some κ → M.fn[κ.f]? = some i → κ.f < lim → ∃ (fd : FuncData) (ps : List Str) (mv : List Value) (ds : List V), KBn X.K fd ps (κ.n + 1) κ.ks (fun us ws => pick κ.pl (us ++ (ws ++ mv))) (fun vs zs => pick κ.pl (vs ++ (zs ++ ds))) ∧ (∀ H, Reps X.K T H κ.ds ds) ∧
    FnOk X.prog X.w X.K X.mg X.base (L2.CX X.prog X.w) k (T.fn κ.f) fd ps (spM X.K T i (G.fs κ.f))

section
variable {T : Tb} {M : Gm} {G : Gl} {lim k : Nat} {N : List Str} {sc : Scope} {W : XK} {X : Cx}
theorem PE_imp {e : Expr} {t t' : TE} (h : PE X e t) (i : ∀ σ H Q, t' σ H Q → t σ H Q) : PE X e t' := ⟨fun pins s σ H Q I q => h.run pins s σ H Q I (i _ _ _ q)⟩
theorem PT_imp {e : Expr} {t t' : TT} (h : PT X e t) (i : ∀ σ H Q, t' σ H Q → t σ H Q) : PT X e t' := ⟨fun pins s σ H Q I q => h.run pins s σ H Q I (i _ _ _ q)⟩
theorem PA_imp {es : List Expr} {t t' : TA} (h : PA X es t) (i : ∀ σ H Q, t' σ H Q → t σ H Q) : PA X es t' := ⟨fun pos pins s σ H Q I q => h.run pos pins s σ H Q I (i _ _ _ q)⟩
theorem PO_imp {e : Option Expr} {t t' : TO} (h : PO X e t) (i : ∀ σ H Q, t' σ H Q → t σ H Q) : PO X e t' := ⟨fun pins s σ H Q I q => h.run pins s σ H Q I (i _ _ _ q)⟩
theorem PTs_imp {es : List Expr} {t t' : TT} (h : PTs X es t) (i : ∀ σ H Q, t' σ H Q → t σ H Q) : PTs X es t' := ⟨fun pins s σ H Q I q => h.run pins s σ H Q I (i _ _ _ q)⟩

/-- one part ahead of a reading: its value is had, its exception is wished, the rest goes on -/
theorem then_E {K : PySem.W.Frag} {α : Type} {F H : Hp} {σ : L2.St} {st : Ml.St} {c : E} {f : Rv → Rs α} {k : α → Prop} {Q : VK} (sub : Same F H) (rel : SRel K T F H σ st)
    (h : outE K T W F H ((ev G c st).then f) k)
    (go : ∀ r v F1 H1, ev G c st = .ok r → Ext F H F1 H1 → RepR K T H F1 H1 r v → SRel K T F1 H1 σ st → outE K T W F H (f r) k → Q v H1) : tE K T W G c σ H Q := by
  refine ⟨F, st, sub, rel, ?_⟩
  cases e : ev G c st with
  | ok r =>
    rw [e] at h
    exact fun v F1 H1 x rr => go r v F1 H1 e x rr (rel.ext x) h
  | exc x ds =>
    rw [e] at h
    exact h
  | bad =>
    rw [e] at h
    exact h
theorem then_T {K : PySem.W.Frag} {α : Type} {F H : Hp} {σ : L2.St} {st : Ml.St} {c : Te} {f : Bool → Rs α} {k : α → Prop} {Q : Bool → Hp → Prop} (sub : Same F H) (rel : SRel K T F H σ st)
    (h : outE K T W F H ((et G c st).then f) k)
    (go : ∀ r F1 H1, et G c st = .ok r → Ext F H F1 H1 → SRel K T F1 H1 σ st → outE K T W F H (f r) k → Q r H1) : tT K T W G c σ H Q := by
  refine ⟨F, st, sub, rel, ?_⟩
  cases e : et G c st with
  | ok r =>
    rw [e] at h
    exact fun F1 H1 x => go r F1 H1 e x (rel.ext x) h
  | exc x ds =>
    rw [e] at h
    exact h
  | bad =>
    rw [e] at h
    exact h
/-- the wish of an exception behind some steps -/
theorem outE.ext {K : PySem.W.Frag} {α : Type} {F H F1 H1 : Hp} {r : Rs α} {k k' : α → Prop} (x : Ext F H F1 H1) (h : outE K T W F H r k) (i : ∀ a, k a → k' a) : outE K T W F1 H1 r k' := by
  cases r with
  | ok a => exact i a h
  | exc y ds => exact ExcW.ext x h
  | bad => exact h
theorem outE_lift {K : PySem.W.Frag} {F H : Hp} {o : Option O} {k : Rv → Prop} (h : outE K T W F H (lift o) k) : ∃ u, o = some u ∧ k (.my u) := by
  cases o with
  | none => exact h.elim
  | some u => exact ⟨u, rfl, h⟩
theorem o2_rule {op : O2} {a b : E} {σ : L2.St} {H : Hp} {Q : VK} (h : tE X.K T W G (.o2 op a b) σ H Q) : tOp (rM2 X.K T (op2 op)) (tE X.K T W G a) (tE X.K T W G b) σ H Q := by
  obtain ⟨F, st, sub, rel, h⟩ := h
  simp only [ev] at h
  refine then_E sub rel h fun r v F1 H1 _ x1 r1 rel1 h1 => ?_
  refine then_E x1.fh rel1 (outE.ext x1 h1 fun _ z => z) fun r' v' F2 H2 _ x2 r2 rel2 h2 => ?_
  obtain ⟨u, e, q⟩ := outE_lift h2
  refine ⟨F2, r.o, r'.o, u, x2.fh, r1.see.ext x2, r2.see, e, fun w F' H' x3 n => ?_⟩
  obtain ⟨fp, n1, n2⟩ := n
  exact q w F' H' ((x1.trans x2).trans x3) ⟨fp, n1, fun z hz => (x1.hh.trans x2.hh).free (n2 z hz)⟩
theorem starEach_c {e : Expr} {es : List Expr} {env : Env} (h : notStar e = true) : starEach (e :: es) env = (false, eval e env) :: starEach es env := by
  cases e <;> first | rfl | cases h
theorem isTrue_c {e : Expr} {env : Env} (h : plainT e = true) : ∀ whole, isTrue e env whole = (do let v ← whole; standAt e.pos; holding [v] (truthy v)) := by
  intro whole
  cases e <;> first | rfl | (cases h; done) | skip
  rename_i op x p
  cases op <;> first | rfl | cases h
theorem plainIx_c {e : Expr} (h : notSlice e = true) : PlainIx e := by
  intro o i
  cases e <;> first | rfl | cases h
theorem noMark {e : Expr} {op : CmpOp} (h : notSet e = true) : behindInMarks op e = false := by
  cases e <;> first | rfl | cases h
theorem attrBase_c {e : Expr} {f : Str} {env : Env} (h : notCall e = true) : attributeBase e f env (eval e env) = eval e env := by
  unfold attributeBase
  split
  · cases h
  · rfl
theorem bin_rule (c : Cap T M G lim k N sc W X) {op : O2} {o : Operator} (h : okOp op o = true) : OpR X (binaryOp o) (rM2 X.K T (op2 op)) := by
  cases op <;> cases o <;> first | (cases h; done) | exact op_addM | exact op_subM | exact op_mulMM | exact op_fdivMM | exact op_modMM | exact op_powMM
theorem cmp_rule (c : Cap T M G lim k N sc W X) {op : O2} {o : CmpOp} (h : okCmp op o = true) : OpR X (compareOp o) (rM2 X.K T (op2 op)) := by
  cases op <;> cases o <;> first | (cases h; done) | exact op_cmpMM op_lt | exact op_cmpMM op_le | exact op_cmpMM op_gt | exact op_cmpMM op_ge | exact op_eqMM c.units | exact op_neMM c.units | exact op_inMM false | exact op_inMM true
end
end Ml

set_option Elab.async false
set_option linter.all false
set_option maxRecDepth 100000
set_option maxHeartbeats 4000000
/-! M6: one lemma an expression's form. -/
namespace Ml
open PySem PySem.Spec PyProof.Rows L2
section
variable {T : Tb} {M : Gm} {G : Gl} {lim k : Nat} {N : List Str} {sc : Scope} {W : XK} {X : Cx} {a b : E} {x y : Expr} {pos : Pos}
theorem e_k {d : D} {c : Const} {j : Nat} (h : okC c d = true) : PE X (.Constant c j pos) (tE X.K T W G (.k d)) := by
  have q : ∀ {v : V} {σ : L2.St} {H : Hp} {Q : VK}, (∀ F, Rep X.K T F d v) → tE X.K T W G (.k d) σ H Q → tC v σ H Q := fun {v σ H Q} r ⟨F, st, sub, rel, g⟩ => g v F H (Ext.refl sub) (.fz (r F))
  cases c <;> cases d <;> first | (cases h; done) | skip
  · exact PE_imp pe_non fun σ H Q => q fun F => rfl
  · obtain rfl := eq_of_beq h
    exact PE_imp pe_bl fun σ H Q => q fun F => rfl
  · obtain rfl := eq_of_beq h
    exact PE_imp pe_int fun σ H Q => q fun F => rfl
  · obtain rfl := eq_of_beq h
    exact PE_imp pe_str fun σ H Q => q fun F => rfl
theorem dbg_of {x : Str} (h : (!dbg x) = true) : (x == ("__debug__" : Str)) = false ∧ (x == ("__classdict__" : Str)) = false := by
  unfold dbg at h
  generalize (x == ("__debug__" : Str)) = p at *
  generalize (x == ("__classdict__" : Str)) = q at *
  cases p <;> cases q <;> first | exact ⟨rfl, rfl⟩ | cases h
theorem e_v (c : Cap T M G lim k N sc W X) {i : Nat} {n : Str} (h1 : N[i]? = some n) (h2 : locB sc n = true) (h3 : (!dbg n) = true) : PE X (.Name n pos) (tE X.K T W G (.v i)) := by
  refine PE_imp (pe_var (i := i) (by rw [c.hN]; exact h1) (c.loc n h2) (dbg_of h3).1 (dbg_of h3).2) fun σ H Q h => ?_
  obtain ⟨F, st, sub, rel, g⟩ := h
  simp only [ev] at g
  split at g
  · rename_i o ho
    obtain ⟨v, e1, s⟩ := rel.at_ i o ho
    exact ⟨v, e1, g v F H (Ext.refl sub) s⟩
  · exact g.elim
theorem e_g (c : Cap T M G lim k N sc W X) {i : Nat} {n : Str} (h1 : M.con[i]? = some n) (h2 : gloB sc n = true) (h3 : (!dbg n) = true) : PE X (.Name n pos) (tE X.K T W G (.g i)) := by
  obtain ⟨d, u, v, e1, e2, r, hr⟩ := c.con i n h1
  refine PE_imp (pe_glob (c.glo n h2) e2 r (dbg_of h3).1) fun σ H Q h => ?_
  obtain ⟨F, st, sub, rel, g⟩ := h
  simp only [ev, e1] at g
  exact g v F H (Ext.refl sub) ⟨[], hr F, rfl⟩
theorem e_bin (c : Cap T M G lim k N sc W X) {op : O2} {o : Operator} (h : okOp op o = true) (ha : PE X x (tE X.K T W G a)) (hb : PE X y (tE X.K T W G b)) : PE X (.BinOp x o y pos) (tE X.K T W G (.o2 op a b)) :=
  PE_imp (pe_op (bin_rule c h) ha hb) fun _ _ _ => o2_rule
theorem e_cmp (c : Cap T M G lim k N sc W X) {op : O2} {o : CmpOp} (h : okCmp op o = true) (hs : notSet y = true) (ha : PE X x (tE X.K T W G a)) (hb : PE X y (tE X.K T W G b)) : PE X (.Compare x [o] [y] pos) (tE X.K T W G (.o2 op a b)) :=
  PE_imp (pe_cmpR (cmp_rule c h) ha hb (noMark hs)) fun _ _ _ => o2_rule
theorem e_neg (c : Cap T M G lim k N sc W X) (ha : PE X x (tE X.K T W G a)) : PE X (.UnaryOp .USub x pos) (tE X.K T W G (.o1 .neg a)) := by
  refine PE_imp (pe_un un_neg ha) fun σ H Q h => ?_
  obtain ⟨F, st, sub, rel, g⟩ := h
  simp only [ev] at g
  refine then_E sub rel g fun r v F1 H1 _ x1 r1 rel1 h1 => ?_
  obtain ⟨u, e, q⟩ := outE_lift h1
  simp only [op1] at e
  split at e
  · rename_i i hi
    cases e
    exact ⟨i, int_of r1.see hi, q _ F1 H1 x1 (.fz rfl)⟩
  · cases e
theorem e_isn (c : Cap T M G lim k N sc W X) {j : Nat} {p : Pos} (ha : PE X x (tE X.K T W G a)) : PE X (.Compare x [.Is] [.Constant .none j p] pos) (tE X.K T W G (.o1 .isn a)) := by
  refine PE_imp (pe_cmp (pc_isN ha) rfl) fun σ H Q h => ?_
  obtain ⟨F, st, sub, rel, g⟩ := h
  simp only [ev] at g
  refine then_E sub rel g fun r v F1 H1 _ x1 r1 rel1 h1 => ?_
  obtain ⟨u, e, q⟩ := outE_lift h1
  cases e
  rw [none_see r1.see]
  exact q _ F1 H1 x1 (.fz rfl)
theorem e_notn (c : Cap T M G lim k N sc W X) {j : Nat} {p : Pos} (ha : PE X x (tE X.K T W G a)) : PE X (.Compare x [.IsNot] [.Constant .none j p] pos) (tE X.K T W G (.o1 .notn a)) := by
  refine PE_imp (pe_cmp (pc_notN ha) rfl) fun σ H Q h => ?_
  obtain ⟨F, st, sub, rel, g⟩ := h
  simp only [ev] at g
  refine then_E sub rel g fun r v F1 H1 _ x1 r1 rel1 h1 => ?_
  obtain ⟨u, e, q⟩ := outE_lift h1
  cases e
  rw [none_see r1.see]
  exact q _ F1 H1 x1 (.fz rfl)
theorem e_not (ha : PE X x (tE X.K T W G a)) : PE X (.UnaryOp .Not x pos) (tE X.K T W G (.not a)) := by
  refine PE_imp (pe_notT ha) fun σ H Q h => ?_
  obtain ⟨F, st, sub, rel, g⟩ := h
  simp only [ev] at g
  refine then_E sub rel g fun r v F1 H1 _ x1 r1 rel1 h1 => ?_
  split at h1
  · rename_i b hb
    exact ⟨b, truth_see x1.fh r1.see hb, h1 _ F1 H1 x1 (.fz rfl)⟩
  · exact h1.elim
theorem pe_and_last (c : Cap T M G lim k N sc W X) {ta tb : TE} {r : List Expr} (ha : PE X x ta) (hb : if r.isEmpty = true then PE X y tb else PE X (.BoolOp .And (y :: r) pos) tb) : PE X (.BoolOp .And (x :: y :: r) pos) (tAndV ta tb) := by
  cases r with
  | nil => exact pe_and ha (pe_one hb)
  | cons z r => exact pe_and ha hb
theorem pe_or_last (c : Cap T M G lim k N sc W X) {ta tb : TE} {r : List Expr} (ha : PE X x ta) (hb : if r.isEmpty = true then PE X y tb else PE X (.BoolOp .Or (y :: r) pos) tb) : PE X (.BoolOp .Or (x :: y :: r) pos) (tOrV ta tb) := by
  cases r with
  | nil => exact pe_or ha (pe_one hb)
  | cons z r => exact pe_or ha hb
theorem e_and {t : TE} {e : Expr} (h : PE X e (tAndV (tE X.K T W G a) (tE X.K T W G b))) : PE X e (tE X.K T W G (.and a b)) := by
  refine PE_imp h fun σ H Q h => ?_
  obtain ⟨F, st, sub, rel, g⟩ := h
  simp only [ev] at g
  refine then_E sub rel g fun r v F1 H1 _ x1 r1 rel1 h1 => ?_
  split at h1
  · rename_i hb
    refine ⟨true, bl_of r1.see hb, ?_⟩
    rw [if_pos rfl]
    refine ⟨F1, st, x1.fh, rel1, outE.ext x1 h1 fun rr hh v' F' H' x' r' => hh v' F' H' (x1.trans x') ?_⟩
    cases rr with
    | my o =>
      obtain ⟨fp, z1, z2⟩ := r'
      exact ⟨fp, z1, fun z hz => x1.hh.free (z2 z hz)⟩
    | vw o => exact r'
  · rename_i hb
    refine ⟨false, bl_of r1.see hb, ?_⟩
    rw [if_neg Bool.false_ne_true]
    exact h1 _ F1 H1 x1 (.fz rfl)
  · exact h1.elim
theorem RepR.older {K : PySem.W.Frag} {H0 H1 F H : Hp} {r : Rv} {v : V} (s : Same H0 H1) (h : RepR K T H1 F H r v) : RepR K T H0 F H r v := by
  cases r with
  | my o =>
    obtain ⟨fp, z1, z2⟩ := h
    exact ⟨fp, z1, fun z hz => s.free (z2 z hz)⟩
  | vw o => exact h
theorem e_or {t : TE} {e : Expr} (h : PE X e (tOrV (tE X.K T W G a) (tE X.K T W G b))) : PE X e (tE X.K T W G (.or a b)) := by
  refine PE_imp h fun σ H Q h => ?_
  obtain ⟨F, st, sub, rel, g⟩ := h
  simp only [ev] at g
  refine then_E sub rel g fun r v F1 H1 _ x1 r1 rel1 h1 => ?_
  split at h1
  · rename_i hb
    refine ⟨false, bl_of r1.see hb, ?_⟩
    rw [if_neg Bool.false_ne_true]
    exact ⟨F1, st, x1.fh, rel1, outE.ext x1 h1 fun rr hh v' F' H' x' r' => hh v' F' H' (x1.trans x') (r'.older x1.hh)⟩
  · rename_i hb
    refine ⟨true, bl_of r1.see hb, ?_⟩
    rw [if_pos rfl]
    exact h1 _ F1 H1 x1 (.fz rfl)
  · exact h1.elim
theorem e_ite {c : Te} {z : Expr} (hc : PT X z (tT X.K T W G c)) (ha : PE X x (tE X.K T W G a)) (hb : PE X y (tE X.K T W G b)) : PE X (.IfExp z x y pos) (tE X.K T W G (.ite c a b)) := by
  refine PE_imp (pe_ifExp hc ha hb) fun σ H Q h => ?_
  obtain ⟨F, st, sub, rel, g⟩ := h
  simp only [ev] at g
  refine then_T sub rel g fun r F1 H1 _ x1 rel1 h1 => ?_
  cases r with
  | true =>
    rw [if_pos rfl] at h1 ⊢
    exact ⟨F1, st, x1.fh, rel1, outE.ext x1 h1 fun rr hh v' F' H' x' r' => hh v' F' H' (x1.trans x') (r'.older x1.hh)⟩
  | false =>
    rw [if_neg Bool.false_ne_true] at h1 ⊢
    exact ⟨F1, st, x1.fh, rel1, outE.ext x1 h1 fun rr hh v' F' H' x' r' => hh v' F' H' (x1.trans x') (r'.older x1.hh)⟩
theorem e_ix (ha : PE X x (tE X.K T W G a)) (hb : PE X y (tE X.K T W G b)) (hs : notSlice y = true) : PE X (.Subscript x y pos) (tE X.K T W G (.ix a b)) := by
  refine PE_imp (pe_ix (ix_M (T := T)) ha hb (plainIx_c hs)) fun σ H Q h => ?_
  obtain ⟨F, st, sub, rel, g⟩ := h
  simp only [ev] at g
  refine then_E sub rel g fun r v F1 H1 _ x1 r1 rel1 h1 => ?_
  refine then_E x1.fh rel1 (outE.ext x1 h1 fun _ z => z) fun r' v' F2 H2 _ x2 r2 rel2 h2 => ?_
  split at h2
  · rename_i o ho
    exact ⟨F2, r.o, r'.o, o, x2.fh, r1.see.ext x2, r2.see, ho, fun w s => h2 w F2 H2 (x1.trans x2) s⟩
  · exact h2.elim
theorem e_sl {lo hi : List E} {l u : Option Expr} {p2 : Pos} (ha : PE X x (tE X.K T W G a)) (hl : PO X l (tEo X.K T W G lo)) (hu : PO X u (tEo X.K T W G hi)) : PE X (.Subscript x (.Slice l u none p2) pos) (tE X.K T W G (.sl a lo hi)) := by
  refine PE_imp (pe_slice (sl_M (T := T)) ha hl hu) fun σ H Q h => ?_
  obtain ⟨F, st, sub, rel, g⟩ := h
  simp only [ev] at g
  refine then_E sub rel g fun r v F1 H1 _ x1 r1 rel1 h1 => ?_
  refine ⟨F1, st, x1.fh, rel1, ?_⟩
  cases e1 : evo G lo st with
  | bad => rw [e1] at h1; exact h1
  | exc y ds => rw [e1] at h1; exact ExcW.ext x1 h1
  | ok l' =>
    rw [e1] at h1
    refine fun F2 H2 x2 => ⟨F2, st, x2.fh, rel1.ext x2, ?_⟩
    cases e2 : evo G hi st with
    | bad => simp only [Rs.then, e2] at h1; exact h1
    | exc y ds => simp only [Rs.then, e2] at h1; exact ExcW.ext (x1.trans x2) h1
    | ok u' =>
      simp only [Rs.then, e2] at h1
      obtain ⟨w, ho, q⟩ := outE_lift h1
      refine fun F3 H3 x3 => ⟨F3, r.o, w, x3.fh, (r1.see.ext x2).ext x3, ho, fun v' F' H' x4 n => ?_⟩
      exact q v' F' H' (((x1.trans x2).trans x3).trans x4) (RepR.older (r := .my w) ((x1.trans x2).trans x3).hh n)
theorem ext_older {K : PySem.W.Frag} {H F' H' H1 : Hp} {rs : List Rv} : ∀ {vs : List V} {ms : List Addr}, Same H H1 → RepRs K T H1 F' H' rs vs ms → RepRs K T H F' H' rs vs ms := by
  induction rs with
  | nil => intro vs ms _ h; exact h
  | cons r rs ih =>
    intro vs ms s h
    obtain ⟨v, w, f1, m2, e, h1, h2, h3⟩ := h
    refine ⟨v, w, f1, m2, e, h1, ih s h2, ?_⟩
    cases r with
    | my o => exact ⟨fun z hz => ⟨s.free (h3.1 z hz).1, (h3.1 z hz).2⟩, h3.2⟩
    | vw o => exact h3
theorem RepRs.new {K : PySem.W.Frag} {H0 F H : Hp} : ∀ {rs : List Rv} {vs : List V} {ms : List Addr}, RepRs K T H0 F H rs vs ms → ∀ z ∈ ms, H0 z = none
  | [], _, _, h, z, hz => by rw [h.2] at hz; cases hz
  | .my o :: rs, _, _, h, z, hz => by
    obtain ⟨v, w, f1, m2, e, h1, h2, h3, h4⟩ := h
    rw [h4] at hz
    rcases List.mem_append.mp hz with hz | hz
    · exact (h3 z hz).1
    · exact RepRs.new h2 z hz
  | .vw o :: rs, _, _, h, z, hz => by
    obtain ⟨v, w, f1, m2, e, h1, h2, h4⟩ := h
    rw [show _ = _ from h4] at hz
    exact RepRs.new h2 z hz
theorem es_nil : PA X [] (tEs X.K T W G []) := PA_imp pa_nil fun σ H Q h => by
  obtain ⟨F, st, sub, rel, g⟩ := h
  exact g [] F H [] (Ext.refl sub) ⟨rfl, rfl⟩
theorem es_cons {c : E} {cs : List E} {es : List Expr} (hs : notStar x = true) (ha : PE X x (tE X.K T W G c)) (hr : PA X es (tEs X.K T W G cs)) : PA X (x :: es) (tEs X.K T W G (c :: cs)) := by
  refine PA_imp (pa_cons ha hr (starEach_c hs)) fun σ H Q h => ?_
  obtain ⟨F, st, sub, rel, g⟩ := h
  simp only [evs] at g
  refine then_E sub rel g fun r v F1 H1 _ x1 r1 rel1 h1 => ?_
  refine ⟨F1, st, x1.fh, rel1, ?_⟩
  cases e1 : evs G cs st with
  | bad => rw [e1] at h1; exact h1
  | exc y ds => rw [e1] at h1; exact ExcW.ext x1 h1
  | ok rs =>
    rw [e1] at h1
    simp only [Rs.then] at h1
    refine fun vs F2 H2 ms x2 rr => ?_
    have o2 := ext_older x1.hh rr
    cases r with
    | my o =>
      obtain ⟨f1, z1, z2⟩ := r1
      have z1' := RepO.mono x2.ff o v f1 z1 (x2.stay (RepO.dom o v f1 z1))
      refine h1 (v :: vs) F2 H2 (f1 ++ ms) (x1.trans x2) ⟨v, vs, f1, ms, rfl, z1', o2, fun z hz => ⟨z2 z hz, fun hm => ?_⟩, rfl⟩
      have n1 := RepRs.new rr z hm
      obtain ⟨_, u, hu⟩ := RepO.dom o v f1 z1 z hz
      rw [n1] at hu
      cases hu
    | vw o =>
      obtain ⟨f1, z1⟩ := RepR.see (r := .vw o) r1 |>.ext x2
      exact h1 (v :: vs) F2 H2 ms (x1.trans x2) ⟨v, vs, f1, ms, rfl, z1, o2, rfl⟩
theorem o_none : PO X none (tEo X.K T W G []) := PO_imp po_none fun σ H Q h => by
  obtain ⟨F, st, sub, rel, g⟩ := h
  exact g F H (Ext.refl sub)
theorem o_some (ha : PE X x (tE X.K T W G a)) {r : List E} : PO X (some x) (tEo X.K T W G (a :: r)) := by
  refine PO_imp (po_some ha) fun σ H Q h => ?_
  obtain ⟨F, st, sub, rel, g⟩ := h
  simp only [evo] at g
  refine then_E sub rel g fun r v F1 H1 _ x1 r1 rel1 h1 => ?_
  split at h1
  · rename_i i hi
    exact ⟨i, int_of r1.see hi, h1 F1 H1 x1⟩
  · exact h1.elim
/-! ### what a list of results is -/
theorem RepRs.sees {K : PySem.W.Frag} {H0 F H : Hp} : ∀ {rs : List Rv} {vs : List V} {ms : List Addr}, RepRs K T H0 F H rs vs ms → Sees K T F H (rs.map Rv.o) vs
  | [], _, _, h => h.1
  | r :: rs, _, _, h => by
    obtain ⟨v, w, f1, m2, e, h1, h2, _⟩ := h
    exact ⟨v, w, e, ⟨f1, h1⟩, RepRs.sees h2⟩
theorem RepRs.toOs {K : PySem.W.Frag} {H0 F H : Hp} : ∀ {rs : List Rv} {vs : List V} {ms : List Addr} {os : List O}, toOs rs = some os → RepRs K T H0 F H rs vs ms → ∃ fp, RepOs K T F H os vs fp ∧ ∀ a ∈ fp, a ∈ ms
  | [], _, _, os, e, h => by
    cases e
    exact ⟨[], ⟨h.1, rfl⟩, fun _ z => nomatch z⟩
  | r :: rs, _, _, os, e, h => by
    obtain ⟨v, w, f1, m2, ev, h1, h2, h3⟩ := h
    unfold Ml.toOs at e
    split at e
    · rename_i o os' e1 e2
      cases e
      obtain ⟨fp, g1, g2⟩ := RepRs.toOs e2 h2
      cases r with
      | my o' =>
        cases e1
        exact ⟨f1 ++ fp, ⟨v, w, f1, fp, ev, h1, g1, fun z hz hm => (h3.1 z hz).2 (g2 z hm), rfl⟩, fun z hz => by
          rw [h3.2]
          rcases List.mem_append.mp hz with hz | hz
          · exact List.mem_append_left _ hz
          · exact List.mem_append_right _ (g2 z hz)⟩
      | vw o' =>
        cases o' with
        | fz d =>
          cases e1
          obtain ⟨r1, rfl⟩ := h1
          exact ⟨fp, ⟨v, w, [], fp, ev, ⟨r1, rfl⟩, g1, (fun _ z => nomatch z), rfl⟩, fun z hz => by rw [show _ = _ from h3]; exact g2 z hz⟩
        | lst _ => cases e1
        | ins _ _ _ => cases e1
    · cases e
/-- all that is frozen, and what a list of results owns -/
theorem RepRs.toDs {K : PySem.W.Frag} {H0 F H : Hp} (sub : Same F H) : ∀ {rs : List Rv} {vs : List V} {ms : List Addr} {ds : List D}, toDs rs = some ds → RepRs K T H0 F H rs vs ms →
    (∀ a ∈ ms, F a = none) ∧ ∀ F', Same F F' → (∀ a ∈ ms, ∀ u, H a = some u → F' a = some u) → Reps K T F' ds vs
  | [], _, _, os, e, h => by
    cases e
    exact ⟨fun a ha => (by rw [h.2] at ha; cases ha), fun F' _ _ => h.1⟩
  | r :: rs, _, _, os, e, h => by
    obtain ⟨v, w, f1, m2, ev, h1, h2, h3⟩ := h
    unfold Ml.toDs at e
    split at e
    · rename_i o os' e1 e2
      cases e
      obtain ⟨g1, g2⟩ := RepRs.toDs sub e2 h2
      cases r with
      | my o' =>
        cases e1
        refine ⟨fun a ha => ?_, fun F' s hF => ⟨v, w, ev, RepO.freeze s o' v f1 h1 fun a ha u hu => hF a ?_ u hu, g2 F' s fun a ha u hu => hF a ?_ u hu⟩⟩
        rotate_left
        · rw [h3.2]; exact List.mem_append_left _ ha
        · rw [h3.2]; exact List.mem_append_right _ ha
        rw [h3.2] at ha
        rcases List.mem_append.mp ha with ha | ha
        · exact (RepO.dom o' v f1 h1 a ha).1
        · exact g1 a ha
      | vw o' =>
        cases o' with
        | fz d =>
          cases e1
          obtain ⟨r1, rfl⟩ := h1
          rw [show _ = _ from h3]
          exact ⟨g1, fun F' s hF => ⟨v, w, ev, Rep.mono s _ _ r1, g2 F' s hF⟩⟩
        | lst _ => cases e1
        | ins _ _ _ => cases e1
    · cases e
/-- freeze what a list of results owns -/
theorem RepRs.frozen {K : PySem.W.Frag} {F0 H0 F H : Hp} {rs : List Rv} {vs : List V} {ms : List Addr} {ds : List D} (x : Ext F0 H0 F H) (e : Ml.toDs rs = some ds) (h : RepRs K T H0 F H rs vs ms) :
    ∃ F', Ext F0 H0 F' H ∧ Same F F' ∧ Reps K T F' ds vs := by
  obtain ⟨g1, g2⟩ := RepRs.toDs x.fh e h
  have s1 : Same F (frz F H ms) := frz_same g1
  refine ⟨frz F H ms, ⟨x.ff.trans s1, x.hh, frz_le x.fh, fun a o e n => ?_⟩, s1, g2 _ s1 fun a ha u hu => by rw [frz_in ha]; exact hu⟩
  by_cases z : a ∈ ms
  · exact RepRs.new h a z
  · rw [frz_out z] at e
    exact x.nw a o e n
/-! ### displays, calls, fields -/
theorem then_Es {K : PySem.W.Frag} {α : Type} {F H : Hp} {σ : L2.St} {st : Ml.St} {cs : List E} {f : List Rv → Rs α} {k : α → Prop} {Q : List V → Hp → Prop} (sub : Same F H) (rel : SRel K T F H σ st)
    (h : outE K T W F H ((evs G cs st).then f) k)
    (go : ∀ rs vs F1 H1 ms, evs G cs st = .ok rs → Ext F H F1 H1 → RepRs K T H F1 H1 rs vs ms → SRel K T F1 H1 σ st → outE K T W F H (f rs) k → Q vs H1) : tEs K T W G cs σ H Q := by
  refine ⟨F, st, sub, rel, ?_⟩
  cases e : evs G cs st with
  | ok rs =>
    rw [e] at h
    exact fun vs F1 H1 ms x rr => go rs vs F1 H1 ms e x rr (rel.ext x) h
  | exc x ds =>
    rw [e] at h
    exact h
  | bad =>
    rw [e] at h
    exact h
theorem toDs_length {rs : List Rv} : ∀ {ds : List D}, toDs rs = some ds → ds.length = rs.length := by
  induction rs with
  | nil => intro ds h; cases h; rfl
  | cons r rs ih =>
    intro ds h
    unfold toDs at h
    split at h
    · rename_i o os e1 e2
      cases h
      rw [List.length_cons, List.length_cons, ih e2]
    · cases h
theorem toOs_length {rs : List Rv} : ∀ {ds : List O}, toOs rs = some ds → ds.length = rs.length := by
  induction rs with
  | nil => intro ds h; cases h; rfl
  | cons r rs ih =>
    intro ds h
    unfold toOs at h
    split at h
    · rename_i o os e1 e2
      cases h
      rw [List.length_cons, List.length_cons, ih e2]
    · cases h
theorem e_tup {es : List E} {xs : List Expr} {j : Nat} (h : PA X xs (tEs X.K T W G es)) : PE X (.Tuple xs j pos) (tE X.K T W G (.tup es)) := by
  refine PE_imp (pe_tup h) fun σ H Q h => ?_
  obtain ⟨F, st, sub, rel, g⟩ := h
  simp only [ev] at g
  refine then_Es sub rel g fun rs vs F1 H1 ms _ x1 r1 rel1 h1 => ?_
  split at h1
  · rename_i ds hd
    split at h1
    · rename_i hz
      obtain ⟨F2, x2, s2, r2⟩ := RepRs.frozen x1 hd r1
      refine ⟨by rw [r2.length]; exact hz, fun p hp => ?_⟩
      exact h1 _ _ _ (x2.trans (Ext.new x2.fh hp)) (.tup x2.fh hp r2)
    · exact h1.elim
  · exact h1.elim
theorem e_lst {es : List E} {xs : List Expr} (h : PA X xs (tEs X.K T W G es)) : PE X (.List xs pos) (tE X.K T W G (.lst es)) := by
  refine PE_imp (pe_lst h) fun σ H Q h => ?_
  obtain ⟨F, st, sub, rel, g⟩ := h
  simp only [ev] at g
  refine then_Es sub rel g fun rs vs F1 H1 ms _ x1 r1 rel1 h1 => ?_
  split at h1
  · rename_i os hd
    split at h1
    · rename_i hz
      obtain ⟨fp, g1, g2⟩ := RepRs.toOs hd r1
      refine ⟨by rw [g1.length]; exact hz, fun p hp => ?_⟩
      have x2 : Ext F1 H1 F1 (upd H1 p (.lst vs)) := Ext.own x1.fh hp
      refine h1 _ _ _ (x1.trans x2) ⟨p :: fp, ⟨p, vs, fp, rfl, upd_same, x1.fh.free hp, RepOs.mono x2.ff _ _ _ g1 (x2.stay (RepOs.dom _ _ _ g1)), fun hm => ?_, rfl⟩, fun a ha => ?_⟩
      · obtain ⟨_, u, hu⟩ := RepOs.dom _ _ _ g1 p hm
        rw [hp] at hu
        cases hu
      · rcases List.mem_cons.mp ha with rfl | ha
        · exact x1.hh.free hp
        · exact RepRs.new r1 a (g2 a ha)
    · exact h1.elim
  · exact h1.elim
/-- a built-in's call -/
theorem bi_rule {b : Bi} {es : List E} {r : List V → Hp → VK → Prop} {σ : L2.St} {H : Hp} {Q : VK} (hr : ∀ vs H Q, rB X.K T b vs H Q → r vs H Q) (h : tE X.K T W G (.bi b es) σ H Q) : tCB r (tEs X.K T W G es) σ H Q := by
  obtain ⟨F, st, sub, rel, g⟩ := h
  simp only [ev] at g
  refine then_Es sub rel g fun rs vs F1 H1 ms _ x1 r1 rel1 h1 => ?_
  obtain ⟨u, e, q⟩ := outE_lift h1
  exact hr _ _ _ ⟨F1, rs.map Rv.o, u, x1.fh, r1.sees, e, fun v F' H' x2 n => q v F' H' (x1.trans x2) (RepR.older (r := .my u) x1.hh n)⟩
theorem e_biF (c : Cap T M G lim k N sc W X) {b : Bi} {es : List E} {z : Expr} {zs : List Expr} {n : Str} {p : Pos} {id : String} (hr : CallR X (.builtin id) (rB X.K T b)) (hv : bootBuiltins n = some (.builtin id)) (hn : n ≠ "__name__") (hd : (n == ("__debug__" : Str)) = false)
    (h2 : gloB sc n = true) (h3 : M.free.contains n = true) (hz : notStar z = true) (hpl : ∀ pos, (backTo pos (starEach zs X.env)).any (·.1) = false) (h : PA X (z :: zs) (tEs X.K T W G es)) : PE X (.Call (.Name n p) (z :: zs) [] pos) (tE X.K T W G (.bi b es)) :=
  PE_imp (pe_callB hr (c.glo n h2) (c.free n h3) hv h hn hd (starEach_c hz) (hpl pos)) fun _ _ _ => bi_rule fun _ _ _ q => q
theorem e_biT (c : Cap T M G lim k N sc W X) {b : Bi} {es : List E} {z : Expr} {zs : List Expr} {n : Str} {p : Pos} {id : String} (hr : CallR X (.type id) (rB X.K T b)) (hv : bootBuiltins n = some (.type id)) (hn : n ≠ "__name__") (hd : (n == ("__debug__" : Str)) = false)
    (h2 : gloB sc n = true) (h3 : M.free.contains n = true) (hz : notStar z = true) (hpl : ∀ pos, (backTo pos (starEach zs X.env)).any (·.1) = false) (h : PA X (z :: zs) (tEs X.K T W G es)) : PE X (.Call (.Name n p) (z :: zs) [] pos) (tE X.K T W G (.bi b es)) :=
  PE_imp (pe_callTy hr (c.glo n h2) (c.free n h3) hv h hn hd (starEach_c hz) (hpl pos)) fun _ _ _ => bi_rule fun _ _ _ q => q
/-- no star among them -/
def noStars : List Expr → Bool
  | [] => true
  | e :: es => notStar e && noStars es
theorem backTo_plain {env : Env} : ∀ {es : List Expr} (pos : Pos), noStars es = true → (backTo pos (starEach es env)).any (·.1) = false
  | [], pos, _ => by
    have e : starEach [] env = [] := by first | rfl | simp [starEach]
    rw [e]
    rfl
  | e :: es, pos, h => by
    have h' := Bool.and_eq_true_iff.mp h
    rw [starEach_c h'.1]
    have ih := backTo_plain (env := env) (es := es) pos h'.2
    cases es with
    | nil =>
      have e0 : starEach [] env = [] := by first | rfl | simp [starEach]
      rw [e0]
      rfl
    | cons f fs =>
      first
        | (show (false || (backTo pos (starEach (f :: fs) env)).any (·.1)) = false; rw [ih]; rfl)
        | (unfold backTo at ih ⊢; simp_all)
theorem okEs_noStars {cs : List E} : ∀ {es : List Expr}, okEs M lim N sc cs es = true → noStars es = true := by
  induction cs with
  | nil => intro es h; cases es with
    | nil => rfl
    | cons _ _ => cases h
  | cons c cs ih => intro es h; cases es with
    | nil => cases h
    | cons e es =>
      simp only [okEs, Bool.and_eq_true] at h
      unfold noStars
      rw [h.1.1, ih h.2]
      rfl
/-- a def's call: the arguments frozen -/
theorem e_call (c : Cap T M G lim k N sc W X) {f : Nat} {i : FnI} {es : List E} {z : Expr} {zs : List Expr} {n : Str} {p : Pos} (hf : f < lim) (hi : M.fn[f]? = some i) (ht : i.top = true) (hko : i.kwo = false) (hn : i.name = n) (hr : i.refs = []) (hl : i.np = es.length) (h2 : gloB sc n = true) (h3 : (!dbg n) = true)
    (hz : notStar z = true) (hpl : ∀ pos, (backTo pos (starEach zs X.env)).any (·.1) = false) (h : PA X (z :: zs) (tEs X.K T W G es)) : PE X (.Call (.Name n p) (z :: zs) [] pos) (tE X.K T W G (.call f es)) := by
  obtain ⟨fd, ps, bd, F⟩ := c.fn f i hi hko hf
  obtain ⟨m1, kp⟩ := c.gfn f i hi ht
  rw [hn] at m1
  refine PE_imp (pe_call F (c.room.mono (Nat.le_succ k)) (c.glo n h2) m1 kp bd .nil c.wish h (dbg_of h3).1 (starEach_c hz) (hpl pos)) fun σ H Q h => ?_
  obtain ⟨F, st, sub, rel, g⟩ := h
  simp only [ev] at g
  refine then_Es sub rel g fun rs vs F1 H1 ms e0 x1 r1 rel1 h1 => ?_
  split at h1
  · rename_i ds hd
    obtain ⟨F2, x2, s2, r2⟩ := RepRs.frozen x1 hd r1
    rw [List.append_nil]
    refine ⟨F2, ds.map .fz, [], x2.fh, RepOs.of_reps r2, ?_, ?_⟩
    · have e1 := toDs_length hd
      have e2 : rs.length = es.length := by
        have : ∀ (es : List E) (rs : List Rv), evs G es st = .ok rs → rs.length = es.length := by
          intro es
          induction es with
          | nil => intro rs h; cases h; rfl
          | cons e es ih =>
            intro rs h
            simp only [evs] at h
            cases q : ev G e st with
            | ok r =>
              rw [q] at h
              simp only [Rs.then] at h
              cases q2 : evs G es st with
              | ok rs' =>
                rw [q2] at h
                cases h
                rw [List.length_cons, List.length_cons, ih rs' q2]
              | exc _ _ => rw [q2] at h; cases h
              | bad => rw [q2] at h; cases h
            | exc _ _ => rw [q] at h; cases h
            | bad => rw [q] at h; cases h
        exact this es rs e0
      rw [List.length_map, e1, e2, hl]
    · cases q : G.fs f (ds.map .fz) with
      | ok r =>
        obtain ⟨r, os'⟩ := r
        rw [q] at h1
        refine fun v F' H' f1 fp' A rr _ _ hnew => h1 v F' H' (x2.trans A.ext) ⟨f1, rr, fun a ha => ?_⟩
        rcases hnew a (.inl ha) with z | z
        · cases z
        · exact x2.hh.free z
      | exc x ds' =>
        rw [q] at h1
        exact fun F' H' d fs A => h1 F' H' d fs (x2.trans A.ext)
      | bad =>
        rw [q] at h1
        exact h1
  · exact h1.elim
end
end Ml

set_option Elab.async false
set_option linter.all false
set_option maxRecDepth 100000
set_option maxHeartbeats 4000000
/-! M7: fields, isinstance, new instances, f-strings, tests. -/
namespace Ml
open PySem PySem.Spec PyProof.Rows L2
section
variable {T : Tb} {M : Gm} {G : Gl} {lim k : Nat} {N : List Str} {sc : Scope} {W : XK} {X : Cx} {a b : E} {x y : Expr} {pos : Pos}
theorem lookF_at {K : PySem.W.Frag} {F H : Hp} (inj : ∀ i j, i < T.nl → j < T.nl → T.nm i = T.nm j → i = j) {f : Nat} (hf : f < T.nl) : ∀ {ns : List Nat} {os : List O} {fs : List (Str × V)} {fp : List Addr} {o : O}, lookF f ns os = some o →
    fs.map (·.1) = ns.map T.nm → (∀ n ∈ ns, n < T.nl) → RepOs K T F H os (fs.map (·.2)) fp → ∃ v, fs.lookup (T.nm f) = some v ∧ See K T F H o v
  | [], _, _, _, _, h, _, _, _ => by cases h
  | _ :: _, [], _, _, _, h, _, _, _ => by cases h
  | n :: ns, p :: os, [], _, _, _, h1, _, _ => by simp at h1
  | n :: ns, p :: os, (g, v) :: fs, fp, o, h, h1, h2, h3 => by
    obtain ⟨v', r, f1, f2, e, a1, a2, _, _⟩ := h3
    simp only [List.map_cons, List.cons.injEq] at h1 e
    unfold lookF at h
    by_cases hn : f = n
    · rw [if_pos hn] at h
      cases h
      refine ⟨v, ?_, ?_⟩
      · rw [hn, ← h1.1]
        simp [List.lookup]
      · rw [e.1]
        exact ⟨f1, a1⟩
    · rw [if_neg hn] at h
      rw [← e.2] at a2
      obtain ⟨w, k1, k2⟩ := lookF_at inj hf h h1.2 (fun m hm => h2 m (List.mem_cons_of_mem _ hm)) a2
      refine ⟨w, ?_, k2⟩
      have hne : (T.nm f == g) = false := by
        rw [h1.1]
        exact beq_eq_false_iff_ne.mpr fun z => hn (inj _ _ hf (h2 n List.mem_cons_self) z)
      rw [List.lookup_cons, hne]
      exact k1
theorem fld_at (c : Cap T M G lim k N sc W X) {F H : Hp} (sub : Same F H) {oa o : O} {v : V} {f : Nat} (s : See X.K T F H oa v) (h : fldO G.fl oa f = some o) :
    ∃ p C dx fs w, v = .ref p ∧ H p = some (.ins C dx fs) ∧ Cls X.K C ∧ NoAttr X.K C (T.nm f) ∧ fs.lookup (T.nm f) = some w ∧ See X.K T F H o w := by
  obtain ⟨fp, s⟩ := s
  unfold fldO at h
  split at h
  · rename_i c' ns ds
    split at h
    · rename_i hk
      obtain ⟨h1, h2, h3⟩ := c.fl _ _ hk
      obtain ⟨⟨p, dx, fs, e, hp, hn, nb, r⟩, _⟩ := s
      obtain ⟨w, g1, g2⟩ := lookF_at c.inj h3 h hn nb (RepOs.of_reps (H := H) r)
      exact ⟨p, _, dx, fs, w, e, sub _ _ hp, h1, h2, g1, g2⟩
    · cases h
  · rename_i c' ns os
    split at h
    · rename_i hk
      obtain ⟨h1, h2, h3⟩ := c.fl _ _ hk
      obtain ⟨p, dx, fs, fq, e, hp, hf, hn, nb, r, n, ef⟩ := s
      obtain ⟨w, g1, g2⟩ := lookF_at c.inj h3 h hn nb r
      exact ⟨p, _, dx, fs, w, e, hp, h1, h2, g1, g2⟩
    · cases h
  · cases h
theorem e_fld (c : Cap T M G lim k N sc W X) {f : Nat} {g : Str} (h1 : M.nms[f]? = some g) (hb : notCall x = true) (ha : PE X x (tE X.K T W G a)) : PE X (.Attribute x g pos) (tE X.K T W G (.fld a f)) := by
  refine PE_imp (pe_fld ha (attrBase_c hb)) fun σ H Q h => ?_
  obtain ⟨F, st, sub, rel, g'⟩ := h
  simp only [ev] at g'
  refine then_E sub rel g' fun r v F1 H1 _ x1 r1 rel1 h1' => ?_
  split at h1'
  · rename_i o ho
    obtain ⟨p, C, dx, fs, w, e, e1, e2, e3, e4, e5⟩ := fld_at c x1.fh r1.see ho
    rw [c.nms f g h1] at e3 e4
    exact ⟨p, C, dx, fs, w, e, e1, e2, e3, e4, h1' w F1 H1 x1 e5⟩
  · exact h1'.elim
theorem rd_ty {K : PySem.W.Frag} {H : Hp} {p : Addr} {xs : List V} (h : Rd H p (.lst xs)) : TyX K H (.ref p) (.type "list") := by
  rcases h with h | ⟨o, h⟩
  · exact .base (.lst h)
  · exact .base (.frz h)
theorem sqt_ty {K : PySem.W.Frag} {H : Hp} {p : Addr} {xs : List V} (h : SqT K H p xs) : TyX K H (.ref p) (.type "tuple") := by
  rcases h with (h | ⟨o, h⟩) | ⟨o, _, _, h, hc, _⟩
  · exact .base (.tup h)
  · exact .fTuple h
  · exact .kTuple h hc
theorem see_ty {K : PySem.W.Frag} {F H : Hp} (sub : Same F H) {o : O} {v : V} (s : See K T F H o v) (h : isiOk o.d = true) : TyX K H v (.type (tyNm o.d)) := by
  have r := s.rep sub
  cases hd : o.d with
  | non => rw [hd] at r; rw [show v = _ from r]; exact .base .non
  | bl b => rw [hd] at r; rw [show v = _ from r]; exact .base (.bl b)
  | int b => rw [hd] at r; rw [show v = _ from r]; exact .base (.int b)
  | str b => rw [hd] at r; rw [show v = _ from r]; exact .base (.str b)
  | lst ds =>
    rw [hd] at r
    obtain ⟨p, xs, e, q, _⟩ := r
    rw [e]
    exact rd_ty q
  | tup ds =>
    rw [hd] at r
    obtain ⟨p, xs, e, q, _⟩ := r
    rw [e]
    exact sqt_ty q
  | ins _ _ _ => rw [hd] at h; cases h
  | fn _ => rw [hd] at h; cases h
theorem kit_isT {K : PySem.W.Frag} {d : D} {t : String} (h : isiOk d = true) (ht : tyName t = true) : PySem.W.kitOne K (.type (tyNm d)) (.type t) = some (isT t d) := by
  have ht' : t = "int" ∨ t = "bool" ∨ t = "str" ∨ t = "tuple" ∨ t = "list" := by
    unfold tyName at ht
    simp only [Bool.or_eq_true, beq_iff_eq] at ht
    rcases ht with (((h | h) | h) | h) | h
    · exact .inl h
    · exact .inr (.inl h)
    · exact .inr (.inr (.inl h))
    · exact .inr (.inr (.inr (.inl h)))
    · exact .inr (.inr (.inr (.inr h)))
  refine kit_ty ?_
  rcases ht' with rfl | rfl | rfl | rfl | rfl <;> cases d <;> first | (cases h; done) | skip
  all_goals first
    | (show kitB "NoneType" _ = some (isN _ "NoneType"); decide +kernel)
    | (show kitB "bool" _ = some (isN _ "bool"); decide +kernel)
    | (show kitB "int" _ = some (isN _ "int"); decide +kernel)
    | (show kitB "str" _ = some (isN _ "str"); decide +kernel)
    | (show kitB "list" _ = some (isN _ "list"); decide +kernel)
    | (show kitB "tuple" _ = some (isN _ "tuple"); decide +kernel)
theorem e_is1 (c : Cap T M G lim k N sc W X) {t : String} {n : Str} {p p2 : Pos} (hn : n = "isinstance") (h1 : gloB sc n = true) (h2 : M.free.contains n = true) (ht : tyName t = true) {m : Str} (hm : m = Str.ofString t) (h3 : gloB sc m = true) (h4 : M.free.contains m = true) (hz : notStar x = true)
    (ha : PE X x (tE X.K T W G a)) : PE X (.Call (.Name n p) [x, .Name m p2] [] pos) (tE X.K T W G (.is1 (.isi [t]) a)) := by
  subst hn hm
  have hb : PE X (.Name (Str.ofString t) p2) (tC (.ty t)) := by
    have ht' : t = "int" ∨ t = "bool" ∨ t = "str" ∨ t = "tuple" ∨ t = "list" := by
      unfold tyName at ht
      simp only [Bool.or_eq_true, beq_iff_eq] at ht
      rcases ht with (((h | h) | h) | h) | h
      · exact .inl h
      · exact .inr (.inl h)
      · exact .inr (.inr (.inl h))
      · exact .inr (.inr (.inr (.inl h)))
      · exact .inr (.inr (.inr (.inr h)))
    rcases ht' with rfl | rfl | rfl | rfl | rfl
    · exact pe_bltn (c.glo _ h3) (c.free _ h4) (u := .type "int") (by decide +kernel) rfl
    · exact pe_bltn (c.glo _ h3) (c.free _ h4) (u := .type "bool") (by decide +kernel) rfl
    · exact pe_bltn (c.glo _ h3) (c.free _ h4) (u := .type "str") (by decide +kernel) rfl
    · exact pe_bltn (c.glo _ h3) (c.free _ h4) (u := .type "tuple") (by decide +kernel) rfl
    · exact pe_bltn (c.glo _ h3) (c.free _ h4) (u := .type "list") (by decide +kernel) rfl
  refine PE_imp (pe_callB call_isi (c.glo _ h1) (c.free _ h2) (by decide +kernel) (pa_cons ha (pa_cons hb pa_nil) (starEach_c hz)) (by decide +kernel) (by decide +kernel) (starEach_c hz) rfl) fun σ H Q h => ?_
  obtain ⟨F, st, sub, rel, g⟩ := h
  simp only [ev] at g
  refine then_E sub rel g fun r v F1 H1 _ x1 r1 rel1 h1 => ?_
  obtain ⟨u, e, q⟩ := outE_lift h1
  simp only [bi] at e
  split at e
  · rename_i hk
    cases e
    refine ⟨v, .ty t, _, .type t, _, rfl, .ty t, see_ty x1.fh r1.see hk, kit_isT hk ht, ?_⟩
    have e1 : isTs [t] r.o.d = isT t r.o.d := by
      unfold isTs isTs
      exact Bool.or_false _
    rw [e1] at q
    exact q _ F1 H1 x1 (.fz rfl)
  · cases e
theorem e_isc (c : Cap T M G lim k N sc W X) {d : Nat} {i : ClI} {n m : Str} {p p2 : Pos} (hn : n = "isinstance") (h1 : gloB sc n = true) (h2 : M.free.contains n = true) (hi : M.cls[d]? = some i) (hm : i.name = m) (h3 : gloB sc m = true) (h4 : (!dbg m) = true) (hz : notStar x = true)
    (ha : PE X x (tE X.K T W G a)) : PE X (.Call (.Name n p) [x, .Name m p2] [] pos) (tE X.K T W G (.isc d a)) := by
  subst hn hm
  have hb : PE X (.Name i.name p2) (tC (.ref (T.cls d))) := pe_glob (c.glo _ h3) (c.made d i hi).1 rfl (dbg_of h4).1
  refine PE_imp (pe_callB call_isi (c.glo _ h1) (c.free _ h2) (by decide +kernel) (pa_cons ha (pa_cons hb pa_nil) (starEach_c hz)) (by decide +kernel) (by decide +kernel) (starEach_c hz) rfl) fun σ H Q h => ?_
  obtain ⟨F, st, sub, rel, g⟩ := h
  simp only [ev] at g
  refine then_E sub rel g fun r v F1 H1 _ x1 r1 rel1 h1 => ?_
  obtain ⟨u, e, q⟩ := outE_lift h1
  unfold iscO at e
  split at e
  · rename_i c' ns ds hd
    split at e
    · rename_i hk
      cases e
      have rr := r1.see.rep x1.fh
      rw [hd] at rr
      obtain ⟨p, dx, fs, e1, e2, _⟩ := rr
      refine ⟨v, .ref (T.cls d), .ref (T.cls c'), .ref (T.cls d), _, rfl, .own _, ?_, c.isc d c' hk.1 hk.2, q _ F1 H1 x1 (.fz rfl)⟩
      rw [e1]
      exact .base (c.ty c' H1 p dx fs hk.2 e2)
    · cases e
  · cases e
theorem evs_length : ∀ {es : List E} {st : Ml.St} {rs : List Rv}, evs G es st = .ok rs → rs.length = es.length
  | [], _, rs, h => by cases h; rfl
  | e :: es, st, rs, h => by
    simp only [evs] at h
    cases q : ev G e st with
    | ok r =>
      rw [q] at h
      simp only [Rs.then] at h
      cases q2 : evs G es st with
      | ok rs' =>
        rw [q2] at h
        cases h
        rw [List.length_cons, List.length_cons, evs_length q2]
      | exc _ _ => rw [q2] at h; cases h
      | bad => rw [q2] at h; cases h
    | exc _ _ => rw [q] at h; cases h
    | bad => rw [q] at h; cases h
/-- C(..) -/
theorem e_mk (c : Cap T M G lim k N sc W X) {d f : Nat} {i : ClI} {j : FnI} {es : List E} {z : Expr} {zs : List Expr} {n : Str} {p : Pos} (hf : f < lim) (hi : M.cls[d]? = some i) (hj : M.fn[f]? = some j) (hko : j.kwo = false) (hn : i.name = n) (hin : f ∈ i.init) (hr : j.refs = [0]) (hl : j.np = es.length + 1)
    (h2 : gloB sc n = true) (h3 : (!dbg n) = true) (hz : notStar z = true) (hpl : ∀ pos, (backTo pos (starEach zs X.env)).any (·.1) = false) (h : PA X (z :: zs) (tEs X.K T W G es)) : PE X (.Call (.Name n p) (z :: zs) [] pos) (tE X.K T W G (.mk d f es)) := by
  obtain ⟨fd, ps, bd, F⟩ := c.fn f j hj hko hf
  obtain ⟨m1, mk⟩ := c.made d i hi
  rw [hn] at m1
  have mk := mk f hin
  refine PE_imp (pe_make mk F c.room (c.glo n h2) m1 bd .nil c.wish h (dbg_of h3).1 (starEach_c hz) (hpl pos)) fun σ H Q h => ?_
  obtain ⟨F, st, sub, rel, g⟩ := h
  simp only [ev] at g
  refine then_Es sub rel g fun rs vs F1 H1 ms e0 x1 r1 rel1 h1 => ?_
  split at h1
  · rename_i ds hd
    obtain ⟨F2, x2, s2, r2⟩ := RepRs.frozen x1 hd r1
    intro q dx hq hdx hne
    have hF2 : F2 q = none := x2.fh.free hq
    have s12 : Same H1 (upd (upd H1 dx (.own q)) q (.ins (T.cls d) dx [])) := fun b o e => by
      rw [upd_ne (ne_of_none e hq), upd_ne (ne_of_none e hdx)]
      exact e
    rw [List.append_nil]
    refine ⟨F2, .ins d [] [] :: ds.map .fz, [q], x2.fh.trans s12, ⟨.ref q, vs, [q], [], rfl, ⟨q, dx, [], [], rfl, upd_same, hF2, rfl, (fun _ z => nomatch z), ⟨rfl, rfl⟩, (fun z => nomatch z), rfl⟩, RepOs.of_reps r2, (fun _ _ z => nomatch z), rfl⟩, ?_, ?_⟩
    · rw [List.length_cons, List.length_map, toDs_length hd, evs_length e0, hl]
    · cases qq : G.fs f (.ins d [] [] :: ds.map .fz) with
      | ok r =>
        obtain ⟨r, os'⟩ := r
        rw [qq] at h1
        intro v F' H' f1 fp' A rr ro hdj hnew
        have back : ∀ a, (a ∈ [q] ∨ upd (upd H1 dx (.own q)) q (.ins (T.cls d) dx []) a = none) → H a = none := fun a ha => by
          rcases ha with ha | ha
          · obtain rfl : a = q := by simpa using ha
            exact x2.hh.free hq
          · exact x2.hh.free (s12.free ha)
        have x3 : Ext F H F' H' := by
          refine ⟨x2.ff.trans A.ff, fun a o e => ?_, A.fh, fun a o e n => ?_⟩
          · have e1 := x2.hh a o e
            exact A.keep a o (s12 a o e1) fun z => by
              obtain rfl : a = q := by simpa using z
              rw [hq] at e1
              cases e1
          · cases z : F2 a with
            | some u => exact x2.nw a u z n
            | none => exact back a (A.nw a o e z)
        simp only [Rs.then] at h1
        split at h1
        · rename_i o e1
          cases e1
          refine ⟨rr.1, h1 (.ref q) F' H' x3 ⟨fp', ?_, fun a ha => back a (hnew a (.inr ha))⟩⟩
          rw [hr] at ro
          obtain ⟨v', r', g1, g2, ev', a1, a2, _, a4⟩ := ro
          simp only [List.map_cons, List.map_nil, List.cons.injEq] at ev'
          obtain ⟨ev1, ev2⟩ := ev'
          obtain ⟨b1, b2⟩ := a2
          rw [b2, List.append_nil] at a4
          rw [a4, show V.ref q = v' from ev1]
          exact a1
        · exact h1.elim
      | exc x ds' =>
        rw [qq] at h1
        refine fun F' H' d' fs A => h1 F' H' d' fs ⟨x2.ff.trans A.ff, fun a o e => ?_, A.fh, fun a o e n => ?_⟩
        · have e1 := x2.hh a o e
          exact A.keep a o (s12 a o e1) fun z => by
            obtain rfl : a = q := by simpa using z
            rw [hq] at e1
            cases e1
        · cases z : F2 a with
          | some u => exact x2.nw a u z n
          | none =>
            rcases A.nw a o e z with z | z
            · obtain rfl : a = q := by simpa using z
              exact x2.hh.free hq
            · exact x2.hh.free (s12.free z)
      | bad =>
        rw [qq] at h1
        exact h1
  · exact h1.elim

/-! ### f-strings -/
theorem fmt_of {K : PySem.W.Frag} {F H : Hp} {o : O} {v : V} {s : Str} (h : fmtO o = some s) (r : See K T F H o v) : (v = .str s ∧ s.length ≤ sizeLine) ∨ ∃ i : Int, v = .int i ∧ i.natAbs.log2 < 1920 ∧ s = Str.ofString (toString i) := by
  unfold fmtO at h
  split at h
  · rename_i z hz
    split at h
    · rename_i hl
      cases h
      exact .inl ⟨str_of r hz, hl⟩
    · cases h
  · split at h
    · rename_i i hi
      split at h
      · rename_i hl
        cases h
        exact .inr ⟨i, int_of r hi, hl, rfl⟩
      · cases h
    · cases h
/-- a part of an f-string -/
def okPart (M : Gm) (lim : Nat) (N : List Str) (sc : Scope) (c : E) : Expr → Bool
  | .FormattedValue x (-1) none _ => okE M lim N sc c x
  | .Constant (.str z) _ _ => (match c with
    | .k (.str y) => z == y
    | _ => false)
  | _ => false
def tPt (K : PySem.W.Frag) (T : Tb) (W : XK) (G : Gl) (c : E) : TE := fun σ H Q => ∃ F st, Same F H ∧ SRel K T F H σ st ∧ outE K T W F H (ev G c st) fun r => ∃ s, fmtO r.o = some s ∧ ∀ F' H', Ext F H F' H' → Q (.str s) H'
theorem part_fmt (ha : PE X x (tE X.K T W G a)) : PE X (.FormattedValue x (-1) none pos) (tPt X.K T W G a) := by
  refine PE_imp (pe_fmt ha) fun σ H Q h => ?_
  obtain ⟨F, st, sub, rel, g⟩ := h
  refine ⟨F, st, sub, rel, ?_⟩
  cases e : ev G a st with
  | bad => rw [e] at g; exact g
  | exc y ds => rw [e] at g; exact g
  | ok r =>
    rw [e] at g
    obtain ⟨s, hs, q⟩ := g
    intro v F' H' x1 r1
    rcases fmt_of hs r1.see with ⟨e1, hl⟩ | ⟨i, e1, hl, e2⟩
    · exact .inl ⟨s, e1, hl, q F' H' x1⟩
    · refine .inr ⟨i, e1, hl, ?_⟩
      rw [e2] at q
      exact q F' H' x1
theorem part_str {z : Str} {j : Nat} : PE X (.Constant (.str z) j pos) (tPt X.K T W G (.k (.str z))) := by
  refine PE_imp pe_str fun σ H Q h => ?_
  obtain ⟨F, st, sub, rel, s, hs, q⟩ := h
  unfold fmtO at hs
  simp only [Rv.o, str?] at hs
  split at hs
  · cases hs
    exact q F H (Ext.refl sub)
  · cases hs
inductive Parts (X : Cx) (T : Tb) (W : XK) (G : Gl) : List E → List Expr → Prop where
  | nil : Parts X T W G [] []
  | cons {c : E} {cs : List E} {e : Expr} {es : List Expr} : PE X e (tPt X.K T W G c) → Parts X T W G cs es → Parts X T W G (c :: cs) (e :: es)
theorem Parts.pj {cs : List E} {es : List Expr} (h : Parts X T W G cs es) : PJ X es (cs.map (tPt X.K T W G)) := by
  induction h with
  | nil => exact .nil
  | cons a _ ih => exact .cons a ih
theorem fs_run {K : PySem.W.Frag} : ∀ {cs : List E} {st : Ml.St} {acc : Str} {F H : Hp} {σ : L2.St} {Q : Str → Hp → Prop}, Same F H → SRel K T F H σ st →
    outE K T W F H (evf G cs acc st) (fun s => ∀ F' H', Ext F H F' H' → Q s H') → tJs (cs.map (tPt K T W G)) acc σ H Q
  | [], st, acc, F, H, σ, Q, sub, rel, h => h F H (Ext.refl sub)
  | c :: cs, st, acc, F, H, σ, Q, sub, rel, h => by
    refine ⟨F, st, sub, rel, ?_⟩
    simp only [evf] at h
    cases e : ev G c st with
    | bad => rw [e] at h; exact h
    | exc y ds => rw [e] at h; exact h
    | ok r =>
      rw [e] at h
      simp only [Rs.then] at h
      split at h
      · rename_i s hs
        split at h
        · rename_i hz
          exact ⟨s, hs, fun F1 H1 x1 => ⟨s, rfl, hz, fs_run x1.fh (rel.ext x1) (outE.ext x1 h fun z hh F' H' x' => hh F' H' (x1.trans x'))⟩⟩
        · exact h.elim
      · exact h.elim
theorem e_fs {cs : List E} {v1 v2 : Expr} {r : List Expr} (h : Parts X T W G cs (v1 :: v2 :: r)) : PE X (.JoinedStr (v1 :: v2 :: r) pos) (tE X.K T W G (.fs cs)) := by
  refine PE_imp (pe_joined h.pj) fun σ H Q h => ?_
  obtain ⟨F, st, sub, rel, g⟩ := h
  simp only [ev] at g
  refine fs_run sub rel ?_
  cases e : evf G cs Str.empty st with
  | bad => rw [e] at g; exact g
  | exc y ds => rw [e] at g; exact g
  | ok s =>
    rw [e] at g
    exact fun F' H' x' => g _ F' H' x' (.fz rfl)

/-! ### tests -/
theorem t_e {z : Expr} (hp : plainT z = true) (ha : PE X z (tE X.K T W G a)) : PT X z (tT X.K T W G (.e a)) := by
  refine PT_imp (pt_truth ha (isTrue_c hp)) fun σ H Q h => ?_
  obtain ⟨F, st, sub, rel, g⟩ := h
  simp only [et] at g
  refine then_E sub rel g fun r v F1 H1 _ x1 r1 rel1 h1 => ?_
  split at h1
  · rename_i b hb
    exact ⟨b, truth_see x1.fh r1.see hb, h1 F1 H1 x1⟩
  · exact h1.elim
theorem t_cmp (c : Cap T M G lim k N sc W X) {op : O2} {o : CmpOp} (h : okCmp op o = true) (hs : notSet y = true) (ha : PE X x (tE X.K T W G a)) (hb : PE X y (tE X.K T W G b)) : PT X (.Compare x [o] [y] pos) (tT X.K T W G (.o2 op a b)) := by
  refine PT_imp (pt_cmpR (cmp_rule c h) ha hb (noMark hs)) fun σ H Q h => ?_
  obtain ⟨F, st, sub, rel, g⟩ := h
  simp only [et] at g
  refine then_E sub rel g fun r v F1 H1 _ x1 r1 rel1 h1 => ?_
  refine then_E x1.fh rel1 (outE.ext x1 h1 fun _ z => z) fun r' v' F2 H2 _ x2 r2 rel2 h2 => ?_
  split at h2
  · rename_i b hb
    refine ⟨F2, r.o, r'.o, _, x2.fh, r1.see.ext x2, r2.see, hb, fun w F' H' x3 n => ?_⟩
    obtain ⟨fp, n1, n2⟩ := n
    exact ⟨b, n1.1, h2 F' H' ((x1.trans x2).trans x3)⟩
  · exact h2.elim
theorem t_isn (c : Cap T M G lim k N sc W X) {j : Nat} {p : Pos} (ha : PE X x (tE X.K T W G a)) : PT X (.Compare x [.Is] [.Constant .none j p] pos) (tT X.K T W G (.o1 .isn a)) := by
  refine PT_imp (pt_cmp (pc_isN ha) rfl) fun σ H Q h => ?_
  obtain ⟨F, st, sub, rel, g⟩ := h
  simp only [et, op1] at g
  refine then_E sub rel g fun r v F1 H1 _ x1 r1 rel1 h1 => ?_
  rw [none_see r1.see]
  exact ⟨_, rfl, h1 F1 H1 x1⟩
theorem t_notn (c : Cap T M G lim k N sc W X) {j : Nat} {p : Pos} (ha : PE X x (tE X.K T W G a)) : PT X (.Compare x [.IsNot] [.Constant .none j p] pos) (tT X.K T W G (.o1 .notn a)) := by
  refine PT_imp (pt_cmp (pc_notN ha) rfl) fun σ H Q h => ?_
  obtain ⟨F, st, sub, rel, g⟩ := h
  simp only [et, op1] at g
  refine then_E sub rel g fun r v F1 H1 _ x1 r1 rel1 h1 => ?_
  rw [none_see r1.see]
  exact ⟨_, rfl, h1 F1 H1 x1⟩
variable {ta tb : Te}
theorem t_not (ha : PT X x (tT X.K T W G ta)) : PT X (.UnaryOp .Not x pos) (tT X.K T W G (.not ta)) := by
  refine PT_imp (pt_not ha) fun σ H Q h => ?_
  obtain ⟨F, st, sub, rel, g⟩ := h
  simp only [et] at g
  exact then_T sub rel g fun r F1 H1 _ x1 rel1 h1 => h1 F1 H1 x1
/-- what stands behind an and, an or: one more or several -/
theorem pw_last {op : BoolOp} {r : List Expr} {t : TT} (h : if r.isEmpty = true then PT X y t else PT X (.BoolOp op (y :: r) pos) t) (hw : r ≠ [] → PW X (.BoolOp op (y :: r) pos) t) : PW X (.BoolOp op (y :: r) pos) t := by
  cases r with
  | nil => cases op with
    | And => exact pw_and1 h
    | Or => exact pw_or1 h
  | cons z r => exact hw (by simp)
theorem PW_imp {e : Expr} {t t' : TT} (h : PW X e t) (i : ∀ σ H Q, t' σ H Q → t σ H Q) : PW X e t' := ⟨fun wh pins s σ H Q I q => h.run wh pins s σ H Q I (i _ _ _ q)⟩
theorem t_and {r : List Expr} (ha : PT X x (tT X.K T W G ta)) (hb : PW X (.BoolOp .And (y :: r) pos) (tT X.K T W G tb)) : PW X (.BoolOp .And (x :: y :: r) pos) (tT X.K T W G (.and ta tb)) := by
  refine PW_imp (pw_and ha hb) fun σ H Q h => ?_
  obtain ⟨F, st, sub, rel, g⟩ := h
  simp only [et] at g
  refine then_T sub rel g fun r F1 H1 _ x1 rel1 h1 => ?_
  cases r with
  | true =>
    rw [if_pos rfl] at h1 ⊢
    exact ⟨F1, st, x1.fh, rel1, outE.ext x1 h1 fun rr hh F' H' x' => hh F' H' (x1.trans x')⟩
  | false =>
    rw [if_neg Bool.false_ne_true] at h1 ⊢
    exact h1 F1 H1 x1
theorem t_or {r : List Expr} (ha : PT X x (tT X.K T W G ta)) (hb : PW X (.BoolOp .Or (y :: r) pos) (tT X.K T W G tb)) : PW X (.BoolOp .Or (x :: y :: r) pos) (tT X.K T W G (.or ta tb)) := by
  refine PW_imp (pw_or ha hb) fun σ H Q h => ?_
  obtain ⟨F, st, sub, rel, g⟩ := h
  simp only [et] at g
  refine then_T sub rel g fun r F1 H1 _ x1 rel1 h1 => ?_
  cases r with
  | true =>
    rw [if_pos rfl] at h1 ⊢
    exact h1 F1 H1 x1
  | false =>
    rw [if_neg Bool.false_ne_true] at h1 ⊢
    exact ⟨F1, st, x1.fh, rel1, outE.ext x1 h1 fun rr hh F' H' x' => hh F' H' (x1.trans x')⟩
theorem ts_nil : PTs X [] (tTs X.K T W G []) := PTs_imp pts_nil fun σ H Q h => by
  obtain ⟨F, st, sub, rel, g⟩ := h
  exact g F H (Ext.refl sub)
theorem ts_one (ha : PT X x (tT X.K T W G ta)) : PTs X [x] (tTs X.K T W G [ta]) := by
  refine PTs_imp (pts_one ha) fun σ H Q h => ?_
  obtain ⟨F, st, sub, rel, g⟩ := h
  simp only [ets] at g
  refine then_T sub rel g fun r F1 H1 _ x1 rel1 h1 => ?_
  cases r with
  | true =>
    rw [if_pos rfl] at h1
    exact h1 F1 H1 x1
  | false =>
    rw [if_neg Bool.false_ne_true] at h1
    exact h1 F1 H1 x1
end
end Ml

set_option Elab.async false
set_option linter.all false
set_option maxRecDepth 100000
set_option maxHeartbeats 4000000
/-! M8: targets, what is walked, comprehensions. -/
namespace Ml
open PySem PySem.Spec PyProof.Rows L2
section
variable {T : Tb} {M : Gm} {G : Gl} {lim k : Nat} {N : List Str} {sc : Scope} {W : XK} {X : Cx} {a b : E} {x y : Expr} {pos : Pos}

/-! ### targets -/
/-- the slots but those at is are kept -/
structure Upto (is : List Nat) (σ σ' : L2.St) : Prop where
  len : σ'.length = σ.length
  at_ : ∀ j, j ∉ is → σ'[j]? = σ[j]?
theorem Upto.refl {is : List Nat} {σ : L2.St} : Upto is σ σ := ⟨rfl, fun _ _ => rfl⟩
theorem Upto.trans {is js : List Nat} {σ1 σ2 σ3 : L2.St} (h : Upto is σ1 σ2) (g : Upto js σ2 σ3) : Upto (is ++ js) σ1 σ3 :=
  ⟨g.len.trans h.len, fun j hj => (g.at_ j fun z => hj (List.mem_append_right _ z)).trans (h.at_ j fun z => hj (List.mem_append_left _ z))⟩
def tTg (K : PySem.W.Frag) (T : Tb) (t : Tg) : TG := fun v σ H Q => ∃ F o st st', Same F H ∧ SRel K T F H σ st ∧ See K T F H o v ∧ bindT t o st = some st' ∧ ∀ σ', SRel K T F H σ' st' → Upto t.slots σ σ' → Q σ' H
def tTgs (K : PySem.W.Frag) (T : Tb) (ts : List Tg) : TGs := fun vs σ H Q => ∃ F ds st st', Same F H ∧ SRel K T F H σ st ∧ Reps K T F ds vs ∧ bindTs ts ds st = some st' ∧ ∀ σ', SRel K T F H σ' st' → Upto (Tg.slotss ts) σ σ' → Q σ' H
theorem SRel.set {K : PySem.W.Frag} {F H : Hp} {σ : L2.St} {st : Ml.St} {i : Nat} {o : O} {v : V} (r : SRel K T F H σ st) (s : See K T F H o v) : SRel K T F H (σ.set i (some v)) (st.set i (some o)) := by
  refine ⟨by rw [List.length_set, List.length_set, r.len], fun j p e => ?_⟩
  by_cases hj : i = j
  · subst hj
    by_cases hl : i < st.length
    · rw [List.getElem?_set_self hl] at e
      cases e
      exact ⟨v, List.getElem?_set_self (by rw [r.len]; exact hl), s⟩
    · rw [List.getElem?_eq_none (by rw [List.length_set]; omega)] at e
      cases e
  · rw [List.getElem?_set_ne hj] at e ⊢
    exact r.at_ j p e
theorem Upto.set {σ : L2.St} {i : Nat} {v : Option V} : Upto [i] σ (σ.set i v) := ⟨List.length_set, fun j hj => List.getElem?_set_ne fun z => hj (by rw [z]; exact List.mem_cons_self)⟩
theorem PG_imp {e : Expr} {t t' : TG} (h : PG X e t) (i : ∀ v σ H Q, t' v σ H Q → t v σ H Q) : PG X e t' := ⟨fun pins s σ H v u Q I r q => h.run pins s σ H v u Q I r (i _ _ _ _ q)⟩
theorem PGs_imp {e : List Expr} {t t' : TGs} (h : PGs X e t) (i : ∀ v σ H Q, t' v σ H Q → t v σ H Q) : PGs X e t' := ⟨fun pins s σ H v u Q I r q => h.run pins s σ H v u Q I r (i _ _ _ _ q)⟩
def tgX : Expr → Bool
  | .Name _ _ => true
  | .Tuple _ _ _ => true
  | _ => false
theorem okTg_x {t : Tg} {e : Expr} (h : okTg N sc t e = true) : tgX e = true := by
  cases t <;> cases e <;> first | rfl | cases h
theorem each_c {e : Expr} {es : List Expr} {env : Env} (h : tgX e = true) : assignEach (e :: es) env = (false, assign e env) :: assignEach es env := by
  cases e <;> first | rfl | cases h
theorem each_n {env : Env} : ∀ {ts : List Tg} {es : List Expr}, okTgs N sc ts es = true → (assignEach es env).length = es.length ∧ (assignEach es env).findIdx? (·.1) = none
  | [], [], _ => by
    have e0 : assignEach [] env = [] := by first | rfl | simp [assignEach]
    rw [e0]
    exact ⟨rfl, rfl⟩
  | [], _ :: _, h => by cases h
  | _ :: _, [], h => by cases h
  | t :: ts, e :: es, h => by
    simp only [okTgs, Bool.and_eq_true] at h
    obtain ⟨i1, i2⟩ := each_n (env := env) h.2
    rw [each_c (okTg_x h.1)]
    refine ⟨by rw [List.length_cons, List.length_cons, i1], ?_⟩
    rw [List.findIdx?_cons, i2]
    rfl
mutual
theorem ok_Tg (c : Cap T M G lim k N sc W X) : ∀ (t : Tg) (e : Expr), okTg N sc t e = true → PG X e (tTg X.K T t)
  | .nm i, e, h => by
    cases e <;> first | (cases h; done) | skip
    rename_i n p
    simp only [okTg, Bool.and_eq_true, decide_eq_true_eq] at h
    obtain ⟨h1, h2⟩ := h
    obtain ⟨l1, l2⟩ := c.sto n h2
    refine PG_imp (pg_name (i := i) (by rw [c.hN]; exact c.nd) (by rw [c.hN]; exact h1) l1 l2) fun v σ H Q h => ?_
    obtain ⟨F, o, st, st', sub, rel, s, hb, q⟩ := h
    cases hb
    exact q _ (rel.set s) Upto.set
  | .tp ts, e, h => by
    cases e <;> first | (cases h; done) | skip
    rename_i es j p
    have h' : okTgs N sc ts es = true := h
    obtain ⟨n1, n2⟩ := each_n (env := X.env) h'
    refine PG_imp (pg_tup c.calm (ok_Tgs c ts es h') n1 n2) fun v σ H Q h => ?_
    obtain ⟨F, o, st, st', sub, rel, s, hb, q⟩ := h
    simp only [bindT] at hb
    split at hb
    · rename_i ds hd
      obtain ⟨p, xs, e1, hq, r⟩ := tup_of sub s hd
      refine ⟨p, xs, e1, hq, ?_, F, ds, st, st', sub, rel, r, hb, q⟩
      rw [r.length]
      have : ∀ (ts : List Tg) (es : List Expr) (ds : List D) (st st' : Ml.St), okTgs N sc ts es = true → bindTs ts ds st = some st' → ds.length = es.length := by
        intro ts
        induction ts with
        | nil => intro es ds st st' h1 h2; cases es <;> cases ds <;> first | rfl | (cases h1; done) | (cases h2; done)
        | cons t ts ih =>
          intro es ds st st' h1 h2
          cases es with
          | nil => cases h1
          | cons e es =>
            cases ds with
            | nil => cases h2
            | cons d ds =>
              simp only [okTgs, Bool.and_eq_true] at h1
              simp only [bindTs] at h2
              split at h2
              · rw [List.length_cons, List.length_cons, ih es ds _ _ h1.2 h2]
              · cases h2
      exact this ts es ds st st' h' hb
    · cases hb
theorem ok_Tgs (c : Cap T M G lim k N sc W X) : ∀ (ts : List Tg) (es : List Expr), okTgs N sc ts es = true → PGs X es (tTgs X.K T ts)
  | [], es, h => by
    cases es <;> first | (cases h; done) | skip
    refine PGs_imp pgs_nil fun vs σ H Q h => ?_
    obtain ⟨F, ds, st, st', sub, rel, s, hb, q⟩ := h
    cases ds with
    | nil =>
      cases hb
      exact ⟨s, q _ rel Upto.refl⟩
    | cons _ _ => cases hb
  | t :: ts, es, h => by
    cases es with
    | nil => cases h
    | cons e es =>
      simp only [okTgs, Bool.and_eq_true] at h
      refine PGs_imp (pgs_cons (ok_Tg c t e h.1) (ok_Tgs c ts es h.2) (by rw [each_c (okTg_x h.1)]; rfl)) fun vs σ H Q h => ?_
      obtain ⟨F, ds, st, st', sub, rel, s, hb, q⟩ := h
      cases ds with
      | nil => cases hb
      | cons d ds =>
        obtain ⟨v, r, e1, s1, s2⟩ := s
        simp only [bindTs] at hb
        split at hb
        · rename_i st1 h1
          exact ⟨v, r, e1, F, .fz d, st, st1, sub, rel, ⟨[], s1, rfl⟩, h1, fun σ1 rel1 u1 => ⟨F, ds, st1, st', sub, rel1, s2, hb, fun σ2 rel2 u2 => q σ2 rel2 (u1.trans u2)⟩⟩
        · cases hb
end

/-! ### what is walked -/
def Walks (K : PySem.W.Frag) (T : Tb) (F B : Hp) (os : List O) (J : It) : Prop := ∀ F' H', Ext F B F' H' → (∀ i, i < os.length → J.go i H') ∧ (∀ i, os.length ≤ i → J.stop i H') ∧
  ∀ i v H'', J.yld i H' v H'' → ∀ o, os[i]? = some o → ∃ F'', Ext F' H' F'' H'' ∧ See K T F'' H'' o v
theorem Walks.ext {K : PySem.W.Frag} {F B F1 B1 : Hp} {os : List O} {J : It} (x : Ext F B F1 B1) (w : Walks K T F B os J) : Walks K T F1 B1 os J := fun F' H' x' => w F' H' (x.trans x')
theorem walks_list {K : PySem.W.Frag} {F B : Hp} {os : List O} {p : Addr} {xs : List V} {fp : List Addr} (hq : SqL K B p xs) (r : RepOs K T F B os xs fp) : Walks K T F B os (Itl K p) := by
  intro F' H' x
  have hq' : SqL K H' p xs := x.hh.seq hq
  have hl := r.length
  refine ⟨fun i hi => ?_, fun i hi => ⟨xs, hq', by omega⟩, fun i v H'' hy o ho => ?_⟩
  · have hi' : i < xs.length := by omega
    exact ⟨xs, xs[i], hq', List.getElem?_eq_getElem hi'⟩
  · obtain ⟨e, g⟩ := hy
    subst e
    obtain ⟨w, f1, h1, h2, _⟩ := RepOs.get r ho
    have e2 : v = w := Option.some.inj ((g xs hq').symm.trans h1)
    subst e2
    exact ⟨F', Ext.refl x.fh, See.ext x ⟨f1, h2⟩⟩
theorem walks_tup {K : PySem.W.Frag} {F B : Hp} {os : List O} {p : Addr} {xs : List V} {fp : List Addr} (hq : SqT K B p xs) (r : RepOs K T F B os xs fp) : Walks K T F B os (Itt K p) := by
  intro F' H' x
  have hq' : SqT K H' p xs := sqt_mono x.hh hq
  have hl := r.length
  refine ⟨fun i hi => ?_, fun i hi => ⟨xs, hq', by omega⟩, fun i v H'' hy o ho => ?_⟩
  · have hi' : i < xs.length := by omega
    exact ⟨xs, xs[i], hq', List.getElem?_eq_getElem hi'⟩
  · obtain ⟨e, g⟩ := hy
    subst e
    obtain ⟨w, f1, h1, h2, _⟩ := RepOs.get r ho
    have e2 : v = w := Option.some.inj ((g xs hq').symm.trans h1)
    subst e2
    exact ⟨F', Ext.refl x.fh, See.ext x ⟨f1, h2⟩⟩
theorem walks_str {K : PySem.W.Frag} {F B : Hp} {s : Str} : Walks K T F B (s.cps.toList.map fun c => .fz (.str ⟨#[c]⟩)) (Its s) := by
  intro F' H' x
  have hl : (s.cps.toList.map fun c => O.fz (.str ⟨#[c]⟩)).length = s.cps.size := by rw [List.length_map, Array.length_toList]
  refine ⟨fun i hi => ?_, fun i hi => ?_, fun i v H'' hy o ho => ?_⟩
  · show i < s.cps.size
    omega
  · show s.cps.size ≤ i
    omega
  · obtain ⟨e, c, hc, ev⟩ := hy
    subst e
    rw [List.getElem?_map, Array.getElem?_toList, hc] at ho
    cases ho
    exact ⟨F', Ext.refl x.fh, [], ev, rfl⟩
theorem walks_range {K : PySem.W.Frag} {F B : Hp} {i j : Int} : Walks K T F B (rangeOf i j) (Itr i (j - i).toNat) := by
  intro F' H' x
  have hl : (rangeOf i j).length = (j - i).toNat := by unfold rangeOf; rw [List.length_map, List.length_range]
  refine ⟨fun n hn => ?_, fun n hn => ?_, fun n v H'' hy o ho => ?_⟩
  · show n < (j - i).toNat
    omega
  · show (j - i).toNat ≤ n
    omega
  · obtain ⟨e, ev⟩ := hy
    subst e
    have hn : n < (j - i).toNat := by
      have := (List.getElem?_eq_some_iff.mp ho).1
      omega
    unfold rangeOf at ho
    rw [List.getElem?_map, List.getElem?_range hn] at ho
    cases ho
    exact ⟨F', Ext.refl x.fh, [], ev, rfl⟩
/-- a list, a tuple or a text -/
def iAny (K : PySem.W.Frag) (te : TE) : TI := fun σ H R => te σ H fun v H1 => (∃ p xs, v = .ref p ∧ SqL K H1 p xs ∧ R (Itl K p) H1) ∨ (∃ p xs, v = .ref p ∧ SqT K H1 p xs ∧ R (Itt K p) H1) ∨ ∃ s, v = .str s ∧ R (Its s) H1
theorem pi_any {tg e : Expr} {te : TE} (he : PE X e te) : PI X tg e (iAny X.K te) := by
  refine ⟨fun pins s σ H R I h => ?_⟩
  refine thn (he.run pins s σ H _ I h) fun u s1 ⟨v, H1, I1, r1, q⟩ => ?_
  rcases q with ⟨p, xs, e1, hq, q⟩ | ⟨p, xs, e1, hq, q⟩ | ⟨z, e1, q⟩
  · subst e1
    obtain rfl : u = Value.ref p := r1
    obtain ⟨its, _, pl, _⟩ := I1.list hq
    exact wpAny_pyIter_list pl.isList (pi_one (tk := s1.toks) I1 _ (turn_list p _) ⟨_, Heap.get?_push_size _ rfl, rfl, rfl⟩ q)
  · subst e1
    obtain rfl : u = Value.ref p := r1
    obtain ⟨its, _, pl, _⟩ := I1.tuple hq
    exact wpAny_pyIter_tuple (show s1.heap.IsTuple p its.toArray from pl) (pi_one (tk := s1.toks) I1 _ (turn_tuple p _) ⟨_, Heap.get?_push_size _ rfl, rfl, rfl⟩ q)
  · subst e1
    obtain ⟨t, rfl⟩ := r1
    cases hw : z.cps.all (· < 128)
    · exact wpAny_pyIter_wide hw (pi_one (tk := s1.toks) I1 _ (turn_str _ z t "str_iterator" (.inr rfl)) ⟨_, Heap.get?_push_size _ rfl, rfl, rfl⟩ q)
    · exact wpAny_pyIter_ascii hw (pi_one (tk := s1.toks) I1 _ (turn_str _ z t "str_ascii_iterator" (.inl rfl)) ⟨_, Heap.get?_push_size _ rfl, rfl, rfl⟩ q)
theorem PI_imp {tg e : Expr} {t t' : TI} (h : PI X tg e t) (i : ∀ σ H R, t' σ H R → t σ H R) : PI X tg e t' := ⟨fun pins s σ H R I q => h.run pins s σ H R I (i _ _ _ q)⟩
/-- the reading of a source: the walk of what M1 says -/
def tI (K : PySem.W.Frag) (T : Tb) (W : XK) (G : Gl) (n : Nat) (cs : List E) : TI := fun σ H R => ∃ F st, Same F H ∧ SRel K T F H σ st ∧ outE K T W F H (evs G cs st) fun rs => ∃ os, walkO n (rs.map Rv.o) = some os ∧
  ∀ vs F1 H1 ms, Ext F H F1 H1 → RepRs K T H F1 H1 rs vs ms → ∀ J, Walks K T F1 H1 os J → R J H1
theorem one_E {c : E} {F H : Hp} {σ : L2.St} {st : Ml.St} {K : PySem.W.Frag} {k : List Rv → Prop} {Q : VK} (sub : Same F H) (rel : SRel K T F H σ st) (h : outE K T W F H (evs G [c] st) k)
    (go : ∀ r v F1 H1, Ext F H F1 H1 → RepR K T H F1 H1 r v → k [r] → Q v H1) : tE K T W G c σ H Q := by
  simp only [evs] at h
  exact then_E sub rel h fun r v F1 H1 _ x1 r1 _ h1 => go r v F1 H1 x1 r1 h1
theorem one_R {K : PySem.W.Frag} {H0 F H : Hp} {r : Rv} {v : V} (h : RepR K T H0 F H r v) : ∃ ms, RepRs K T H0 F H [r] [v] ms := by
  cases r with
  | my o =>
    obtain ⟨fp, h1, h2⟩ := h
    exact ⟨fp ++ [], v, [], fp, [], rfl, h1, ⟨rfl, rfl⟩, fun z hz => ⟨h2 z hz, (fun q => nomatch q)⟩, rfl⟩
  | vw o =>
    obtain ⟨fp, h1⟩ := h
    exact ⟨[], v, [], fp, [], rfl, h1, ⟨rfl, rfl⟩, rfl⟩
theorem i_any {tg : Expr} (ha : PE X x (tE X.K T W G a)) : PI X tg x (tI X.K T W G 0 [a]) := by
  refine PI_imp (pi_any ha) fun σ H R h => ?_
  obtain ⟨F, st, sub, rel, g⟩ := h
  refine one_E sub rel g fun r v F1 H1 x1 r1 g1 => ?_
  obtain ⟨os, hw, q⟩ := g1
  obtain ⟨ms, hr⟩ := one_R r1
  have q' := q [v] F1 H1 ms x1 hr
  simp only [List.map_cons, List.map_nil, walkO] at hw
  split at hw
  · rename_i z hz
    cases hw
    exact .inr (.inr ⟨z, str_of r1.see hz, q' _ walks_str⟩)
  · obtain ⟨p, xs, fp, e1, hq, ro⟩ := items_of x1.fh r1.see hw
    rcases hq with hq | hq
    · exact .inl ⟨p, xs, e1, hq, q' _ (walks_list hq ro)⟩
    · exact .inr (.inl ⟨p, xs, e1, hq, q' _ (walks_tup hq ro)⟩)
theorem i_range1 (c : Cap T M G lim k N sc W X) {tg : Expr} {n : Str} {p : Pos} (hn : n = "range") (h1 : gloB sc n = true) (h2 : M.free.contains n = true) (hz : notStar x = true) (ha : PA X [x] (tEs X.K T W G [a])) : PI X tg (.Call (.Name n p) [x] [] pos) (tI X.K T W G 1 [a]) := by
  subst hn
  refine PI_imp (pi_range1 (c.glo _ h1) (c.free _ h2) ha (by rw [starEach_c hz]; rfl)) fun σ H R h => ?_
  obtain ⟨F, st, sub, rel, g⟩ := h
  refine ⟨F, st, sub, rel, ?_⟩
  cases e : evs G [a] st with
  | bad => rw [e] at g; exact g
  | exc y ds => rw [e] at g; exact g
  | ok rs =>
    rw [e] at g
    obtain ⟨os, hw, q⟩ := g
    intro vs F1 H1 ms x1 rr
    have q' := q vs F1 H1 ms x1 rr
    have ss := rr.sees
    have el := evs_length e
    match rs, el, ss, hw with
    | [r], _, ⟨v, w, ev, s, es⟩, hw =>
      simp only [List.map_cons, List.map_nil, walkO] at hw
      split at hw
      · rename_i j hj
        split at hw
        · rename_i hb
          cases hw
          refine ⟨j, by rw [ev, int_of s hj, show w = _ from es], hb.1, hb.2, ?_⟩
          have e0 : (j - 0).toNat = j.toNat := by rw [Int.sub_zero]
          have := q' (Itr 0 (j - 0).toNat) walks_range
          rw [e0] at this
          exact this
        · cases hw
      · cases hw
theorem i_range2 (c : Cap T M G lim k N sc W X) {tg : Expr} {n : Str} {p : Pos} (hn : n = "range") (h1 : gloB sc n = true) (h2 : M.free.contains n = true) (hz : notStar x = true) (hz2 : notStar y = true) (ha : PA X [x, y] (tEs X.K T W G [a, b])) :
    PI X tg (.Call (.Name n p) [x, y] [] pos) (tI X.K T W G 2 [a, b]) := by
  subst hn
  refine PI_imp (pi_range2 (c.glo _ h1) (c.free _ h2) ha (by rw [starEach_c hz, starEach_c hz2]; rfl) (by rw [starEach_c hz2]; rfl)) fun σ H R h => ?_
  obtain ⟨F, st, sub, rel, g⟩ := h
  refine ⟨F, st, sub, rel, ?_⟩
  cases e : evs G [a, b] st with
  | bad => rw [e] at g; exact g
  | exc y ds => rw [e] at g; exact g
  | ok rs =>
    rw [e] at g
    obtain ⟨os, hw, q⟩ := g
    intro vs F1 H1 ms x1 rr
    have q' := q vs F1 H1 ms x1 rr
    have ss := rr.sees
    have el := evs_length e
    match rs, el, ss, hw with
    | [r, r'], _, ⟨v, w, ev, s, v', w', ev', s', es⟩, hw =>
      simp only [List.map_cons, List.map_nil, walkO] at hw
      split at hw
      · rename_i i j hi hj
        split at hw
        · rename_i hb
          cases hw
          exact ⟨i, j, by rw [ev, ev', int_of s hi, int_of s' hj, show w' = _ from es], hb, q' _ walks_range⟩
        · cases hw
      · cases hw
end
end Ml

set_option Elab.async false
set_option linter.all false
set_option maxRecDepth 100000
set_option maxHeartbeats 4000000
/-! M9: comprehensions; the expressions' theorem. -/
namespace Ml
open PySem PySem.Spec PyProof.Rows L2
section
variable {T : Tb} {M : Gm} {G : Gl} {lim k : Nat} {N : List Str} {sc : Scope} {W : XK} {X : Cx} {a b : E} {x y : Expr} {pos : Pos}
/-- a name's kind within a block -/
def kindIn (env : Env) (n : Str) (k : NameKind) : NameKind := if (k == .free && env.scope.kind == .function && env.kindOf n == some .cell) then .cell else k
theorem look_blk (env : Env) : ∀ (names : List (Str × NameKind)) (n : Str),
    (names.map fun (p : Str × NameKind) => match p with | (n, k) => if (k == .free && env.scope.kind == .function && env.kindOf n == some .cell) then (n, .cell) else (n, k)).lookup n = (names.lookup n).map (kindIn env n)
  | [], n => rfl
  | (m, k) :: r, n => by
    have ih := look_blk env r n
    rw [List.map_cons]
    have e0 : (match (m, k) with | (n, k) => if (k == .free && env.scope.kind == .function && env.kindOf n == some .cell) then (n, NameKind.cell) else (n, k)) = (m, kindIn env m k) := by
      show (if (k == .free && env.scope.kind == .function && env.kindOf m == some .cell) then (m, NameKind.cell) else (m, k)) = (m, kindIn env m k)
      unfold kindIn
      split <;> rfl
    rw [e0, List.lookup_cons, List.lookup_cons]
    by_cases h : n = m
    · subst h
      simp
    · have hb : (n == m) = false := beq_eq_false_iff_ne.mpr h
      rw [hb]
      exact ih
theorem look_env {scope : Scope} {cl : List (Str × Addr)} {C : Addr} {env : Env} (n : Str) : (compEnvC scope cl C env).scope.names.lookup n = (scope.names.lookup n).map (kindIn env n) := look_blk env scope.names n
theorem kindIn_same {env : Env} {n : Str} {k : NameKind} (h : k ≠ .free) : kindIn env n k = k := by
  unfold kindIn
  cases k <;> first | rfl | exact absurd rfl h
theorem kindIn_free {env : Env} {n : Str} : kindIn env n .free = .cell ∨ kindIn env n .free = .free := by
  unfold kindIn
  split
  · exact .inl rfl
  · exact .inr rfl
theorem cap_blk (c : Cap T M G lim k N sc W X) {sc' : Scope} (s : Shared) (H : Hp) (C : Addr) (cl : List (Str × Addr)) (fp : List Addr) : Cap T M G lim k N sc' (fun _ _ _ => False) (X.blk s H sc' (compEnvC sc' cl C X.env) fp) where
  hN := c.hN
  nd := c.nd
  loc := fun n h => by
    unfold locB at h
    unfold Vis
    show (compEnvC sc' cl C X.env).scope.names.lookup n = some .local ∨ (compEnvC sc' cl C X.env).scope.names.lookup n = some .cell ∨ (compEnvC sc' cl C X.env).scope.names.lookup n = some .free
    rw [look_env]
    split at h
    · rename_i e
      rw [e]
      exact .inl (congrArg some (kindIn_same (by decide)))
    · rename_i e
      rw [e]
      exact .inr (.inl (congrArg some (kindIn_same (by decide))))
    · rename_i e
      rw [e]
      rcases kindIn_free (env := X.env) (n := n) with z | z
      · exact .inr (.inl (congrArg some z))
      · exact .inr (.inr (congrArg some z))
    · cases h
  sto := fun n h => by
    unfold stoB at h
    unfold L2.Loc
    show ((compEnvC sc' cl C X.env).scope.names.lookup n = some .local ∨ (compEnvC sc' cl C X.env).scope.names.lookup n = some .cell) ∧ ((sc'.names.lookup n == some .cell) = true ∨ (compEnvC sc' cl C X.env).scope.names.lookup n = some .local)
    rw [look_env]
    split at h
    · rename_i e
      rw [e]
      have z : Option.map (kindIn X.env n) (some NameKind.local) = some .local := congrArg some (kindIn_same (by decide))
      rw [z]
      exact ⟨.inl rfl, .inr rfl⟩
    · rename_i e
      rw [e]
      have z : Option.map (kindIn X.env n) (some NameKind.cell) = some .cell := congrArg some (kindIn_same (by decide))
      rw [z]
      exact ⟨.inr rfl, .inl rfl⟩
    · cases h
  glo := fun n h => by
    unfold gloB at h
    unfold L2.Gl
    show (compEnvC sc' cl C X.env).scope.names.lookup n = some .globalImplicit
    rw [look_env]
    split at h
    · rename_i e
      rw [e]
      exact congrArg some (kindIn_same (by decide))
    · cases h
  cf := fun n h => by
    show (compEnvC sc' cl C X.env).scope.names.lookup n = some .cell ∨ (compEnvC sc' cl C X.env).scope.names.lookup n = some .free
    rw [look_env]
    rcases h with e | e
    · rw [e]
      exact .inl (congrArg some (kindIn_same (by decide)))
    · rw [e]
      rcases kindIn_free (env := X.env) (n := n) with z | z
      · exact .inl (congrArg some z)
      · exact .inr (congrArg some z)
  calm := c.calm
  units := c.units
  room := c.room
  con := c.con
  free := c.free
  fn := c.fn
  gfn := c.gfn
  made := c.made
  fl := c.fl
  inj := c.inj
  nms := c.nms
  isc := c.isc
  ty := c.ty
  wish := passL
  kwE := c.kwE
  kw := c.kw
theorem own_slots {N : List Str} {is : List Nat} : (ownOf N is).map (·.2) = is := by
  unfold ownOf
  rw [List.map_map]
  exact List.map_id _
theorem blk_ok (c : Cap T M G lim k N sc W X) {sc' : Scope} {own : List (Str × Nat)} (h : blkC N sc sc' own = true) : BlkOk X.N X.env.scope sc' own := by
  have b := blkOk_by h
  rw [c.hN]
  exact ⟨b.kind, b.uniq, b.ix, fun p hp e => c.cf _ (b.free p hp e), b.own⟩
/-! ### slots forgotten -/
theorem wipeS_length (st : Ml.St) : ∀ is : List Nat, (wipeS st is).length = st.length
  | [] => rfl
  | i :: is => by unfold wipeS; rw [List.length_set, wipeS_length st is]
theorem wipeS_some {st : Ml.St} {j : Nat} {o : O} : ∀ {is : List Nat}, (wipeS st is)[j]? = some (some o) → st[j]? = some (some o) ∧ j ∉ is
  | [], h => ⟨h, by simp⟩
  | i :: is, h => by
    unfold wipeS at h
    by_cases hi : i = j
    · subst hi
      by_cases hl : i < (wipeS st is).length
      · rw [List.getElem?_set_self hl] at h; cases h
      · rw [List.getElem?_eq_none (by rw [List.length_set]; omega)] at h; cases h
    · rw [List.getElem?_set_ne hi] at h
      obtain ⟨h1, h2⟩ := wipeS_some h
      exact ⟨h1, fun z => (List.mem_cons.mp z).elim (fun e => hi e.symm) h2⟩
theorem wipe_at {σ : L2.St} {j : Nat} : ∀ {is : List Nat}, j ∉ is → (wipe σ is)[j]? = σ[j]?
  | [], _ => rfl
  | i :: is, h => by
    unfold wipe
    rw [List.getElem?_set_ne (fun e => h (by rw [e]; exact List.mem_cons_self))]
    exact wipe_at fun z => h (List.mem_cons_of_mem _ z)
theorem wipe_in {σ : L2.St} {j : Nat} (hl : j < σ.length) : ∀ {is : List Nat}, j ∈ is → (wipe σ is)[j]? = some none
  | i :: is, h => by
    unfold wipe
    by_cases hi : i = j
    · subst hi
      exact List.getElem?_set_self (by rw [wipe_length]; exact hl)
    · rw [List.getElem?_set_ne hi]
      exact wipe_in hl ((List.mem_cons.mp h).resolve_left fun e => hi e.symm)
theorem SRel.wipe {K : PySem.W.Frag} {F H : Hp} {σ : L2.St} {st : Ml.St} (r : SRel K T F H σ st) (is : List Nat) : SRel K T F H (L2.wipe σ is) (wipeS st is) := by
  refine ⟨by rw [wipe_length, wipeS_length, r.len], fun i o e => ?_⟩
  obtain ⟨h1, h2⟩ := wipeS_some e
  rw [wipe_at h2]
  exact r.at_ i o h1
theorem wipe_upto {σ σ' : L2.St} {is : List Nat} (u : Upto is (wipe σ is) σ') : wipe σ' is = wipe σ is := by
  have hl : σ'.length = σ.length := by rw [u.len, wipe_length]
  refine List.ext_getElem? fun j => ?_
  by_cases hj : j ∈ is
  · by_cases hz : j < σ.length
    · rw [wipe_in hz hj, wipe_in (by rw [hl]; exact hz) hj]
    · rw [List.getElem?_eq_none (by rw [wipe_length]; omega), List.getElem?_eq_none (by rw [wipe_length]; omega)]
  · rw [wipe_at hj, u.at_ j hj]
/-! ### the loop -/
theorem lcL_ok {f : O → Rs (Option O)} (hf : ∀ o, (∃ y, f o = .ok y) ∨ f o = .bad) : ∀ os, (∃ ys, lcL f os = .ok ys) ∨ lcL f os = .bad
  | [] => .inl ⟨[], rfl⟩
  | o :: os => by
    unfold lcL
    rcases hf o with ⟨y, e⟩ | e
    · rw [e]
      rcases lcL_ok hf os with ⟨ys, e2⟩ | e2
      · simp only [Rs.then, e2]
        cases y with
        | some z => exact .inl ⟨_, rfl⟩
        | none => exact .inl ⟨_, rfl⟩
      · refine .inr ?_
        simp only [Rs.then, e2]
    · rw [e]
      exact .inr rfl
theorem calm_ok {α : Type} (r : Rs α) : (∃ y, r.calm = .ok y) ∨ r.calm = .bad := by
  cases r with
  | ok a => exact .inl ⟨a, rfl⟩
  | exc _ _ => exact .inr rfl
  | bad => exact .inr rfl
theorem calm_eq {α : Type} {r : Rs α} {y : α} (h : r.calm = .ok y) : r = .ok y := by
  cases r with
  | ok a => exact h
  | exc _ _ => cases h
  | bad => cases h
theorem RepOs.snoc {K : PySem.W.Frag} {F H : Hp} {o : O} {v : V} {g : List Addr} (h : RepO K T F H o v g) : ∀ {os : List O} {vs : List V} {fp : List Addr}, RepOs K T F H os vs fp → (∀ a ∈ fp, a ∉ g) → ∃ fq, RepOs K T F H (os ++ [o]) (vs ++ [v]) fq ∧ ∀ a ∈ fq, a ∈ fp ∨ a ∈ g
  | [], vs, fp, r, d => by
    obtain ⟨e1, e2⟩ := r
    subst e1 e2
    exact ⟨g ++ [], ⟨v, [], g, [], rfl, h, ⟨rfl, rfl⟩, (fun _ _ z => nomatch z), rfl⟩, fun a ha => .inr (by simpa using ha)⟩
  | p :: os, vs, fp, r, d => by
    obtain ⟨w, r', f1, f2, e, a1, a2, a3, a4⟩ := r
    subst e a4
    obtain ⟨fq, b1, b2⟩ := RepOs.snoc h a2 fun a ha => d a (List.mem_append_right _ ha)
    refine ⟨f1 ++ fq, ⟨w, r' ++ [v], f1, fq, rfl, a1, b1, fun a ha hq => ?_, rfl⟩, fun a ha => ?_⟩
    · rcases b2 a hq with z | z
      · exact a3 a ha z
      · exact d a (List.mem_append_left _ ha) z
    · rcases List.mem_append.mp ha with ha | ha
      · exact .inl (List.mem_append_left _ ha)
      · rcases b2 a ha with z | z
        · exact .inl (List.mem_append_right _ z)
        · exact .inr z
/-- the new list behind a change -/
theorem Ext.mut {F H F' H' : Hp} {D : Addr} {o : HO} (x : Ext F H F' H') (h : H D = none) (f : F' D = none) : Ext F H F' (upd H' D o) :=
  ⟨x.ff, fun a u e => by rw [upd_ne (ne_of_none e h)]; exact x.hh a u e, fun a u e => by rw [upd_ne (ne_of_none e f)]; exact x.fh a u e, x.nw⟩
theorem lc_imp {elt : E} {t : Tg} {n : Nat} {src : List E} {ifs : List Te} {σ : L2.St} {H : Hp} {Q : VK} (h : tE X.K T W G (.lc elt t n src ifs) σ H Q) :
    tLc (tI X.K T W G n src) (tTg X.K T t) (tTs X.K T (fun _ _ _ => False) G ifs) (tE X.K T (fun _ _ _ => False) G elt) ((ownOf N t.slots).map (·.2)) σ H Q := by
  obtain ⟨F, st, sub, rel, g⟩ := h
  rw [own_slots]
  refine ⟨F, st, sub, rel, ?_⟩
  simp only [ev] at g
  cases e0 : evs G src st with
  | bad => rw [e0] at g; exact g
  | exc y ds => rw [e0] at g; exact g
  | ok rs =>
    rw [e0] at g
    simp only [Rs.then] at g
    cases e1 : walkO n (rs.map Rv.o) with
    | none => simp only [e1] at g; exact g.elim
    | some os =>
      simp only [e1] at g
      refine ⟨os, e1, fun vs F1 H1 ms x1 rr J wk => ?_⟩
      obtain ⟨f, hfd⟩ : ∃ f, f = (fun o => (match bindT t o (wipeS st t.slots) with
        | some st' => (ets G ifs st').then fun b => if b then (ev G elt st').then fun r => match r.toO with
            | some o => .ok (some o)
            | none => .bad
          else .ok none
        | none => .bad : Rs (Option O)).calm) := ⟨_, rfl⟩
      have hcalm : ∀ o, (∃ y, f o = .ok y) ∨ f o = .bad := fun o => by rw [hfd]; exact calm_ok _
      have g' : outE X.K T W F H ((lcL f os).then fun ys => if ys.length < sizeLine then .ok (.my (.lst ys)) else .bad) fun r => ∀ v F' H', Ext F H F' H' → RepR X.K T H F' H' r v → Q v H' := by
        rw [hfd]
        exact g
      obtain ⟨zs, ez⟩ : ∃ zs, lcL f os = .ok zs := by
        rcases lcL_ok hcalm os with z | z
        · exact z
        · rw [z] at g'
          exact g'.elim
      rw [ez] at g'
      simp only [Rs.then] at g'
      by_cases hz : zs.length < sizeLine
      · rw [if_pos hz] at g'
        intro D hD
        refine ⟨fun i m H' => m = os.length - i ∧ i ≤ os.length ∧ ∃ F' ys acc fp rest, Ext F1 H1 F' H' ∧ H' D = some (.lst acc) ∧ F' D = none ∧ RepOs X.K T F' H' ys acc fp ∧ D ∉ fp ∧ (∀ a ∈ fp, H1 a = none) ∧ lcL f (os.drop i) = .ok rest ∧ zs = ys ++ rest,
          ⟨os.length, by simp, Nat.zero_le _, F1, [], [], [], zs, Ext.own x1.fh hD, upd_same, x1.fh.free hD, ⟨rfl, rfl⟩, (fun z => nomatch z), (fun _ z => nomatch z), ez, rfl⟩, ?_⟩
        rintro i m H' ⟨rfl, hi, F', ys, acc, fp, rest, x2, hacc, hFD, ro, hDf, hnew, el, ezs⟩
        obtain ⟨w1, w2, w3⟩ := wk F' H' x2
        by_cases hlt : i < os.length
        · refine .inr ⟨w1 i hlt, fun H'' => i + 1 ≤ os.length ∧ ∃ F' ys acc fp rest, Ext F1 H1 F' H'' ∧ H'' D = some (.lst acc) ∧ F' D = none ∧ RepOs X.K T F' H'' ys acc fp ∧ D ∉ fp ∧ (∀ a ∈ fp, H1 a = none) ∧ lcL f (os.drop (i + 1)) = .ok rest ∧ zs = ys ++ rest,
            fun H'' p => ⟨os.length - (i + 1), by omega, rfl, p⟩, fun v H'' hy => ?_⟩
          have ho : os[i]? = some os[i] := List.getElem?_eq_getElem hlt
          obtain ⟨F2, x3, see⟩ := w3 i v H'' hy os[i] ho
          have hdrop : os.drop i = os[i] :: os.drop (i + 1) := List.drop_eq_getElem_cons hlt
          rw [hdrop] at el
          unfold lcL at el
          obtain ⟨yo, ey⟩ : ∃ yo, f os[i] = .ok yo := by
            rcases hcalm os[i] with z | z
            · exact z
            · rw [z] at el; cases el
          rw [ey] at el
          simp only [Rs.then] at el
          obtain ⟨ys', ey'⟩ : ∃ ys', lcL f (os.drop (i + 1)) = .ok ys' := by
            rcases lcL_ok hcalm (os.drop (i + 1)) with z | z
            · exact z
            · rw [z] at el; cases el
          rw [ey'] at el
          simp only at el
          have ey0 := ey
          rw [hfd] at ey0
          have ey1 := calm_eq ey0
          cases eb : bindT t os[i] (wipeS st t.slots) with
          | none => simp only [eb] at ey1; cases ey1
          | some st' =>
            simp only [eb] at ey1
            have rel2 : SRel X.K T F2 H'' σ st := rel.ext ((x1.trans x2).trans x3)
            refine ⟨F2, os[i], wipeS st t.slots, st', x3.fh, rel2.wipe _, see, eb, fun σ' rel' up => ⟨wipe_upto up, ?_⟩⟩
            have hacc2 : H'' D = some (.lst acc) := x3.hh D _ hacc
            have hFD2 : F2 D = none := by
              cases z : F2 D with
              | none => rfl
              | some u =>
                have := x3.nw D u z hFD
                rw [hacc] at this
                cases this
            have ro2 : RepOs X.K T F2 H'' ys acc fp := RepOs.mono x3.ff _ _ _ ro (x3.stay (RepOs.dom _ _ _ ro))
            refine ⟨F2, st', x3.fh, rel', ?_⟩
            cases et1 : ets G ifs st' with
            | bad => simp only [et1] at ey1; cases ey1
            | exc _ _ => simp only [et1] at ey1; cases ey1
            | ok b =>
              simp only [et1] at ey1
              intro F3 H3 x4
              have hacc3 : H3 D = some (.lst acc) := x4.hh D _ hacc2
              have hFD3 : F3 D = none := by
                cases z : F3 D with
                | none => rfl
                | some u =>
                  have := x4.nw D u z hFD2
                  rw [hacc2] at this
                  cases this
              have ro3 : RepOs X.K T F3 H3 ys acc fp := RepOs.mono x4.ff _ _ _ ro2 (x4.stay (RepOs.dom _ _ _ ro2))
              cases b with
              | false =>
                simp only [Bool.false_eq_true, if_false] at ey1 ⊢
                cases ey1
                cases el
                exact ⟨hlt, F3, ys, acc, fp, _, (x2.trans x3).trans x4, hacc3, hFD3, ro3, hDf, hnew, ey', ezs⟩
              | true =>
                simp only [if_true] at ey1 ⊢
                refine ⟨F3, st', x4.fh, rel'.ext x4, ?_⟩
                cases ee : ev G elt st' with
                | bad => simp only [ee, Rs.then] at ey1; cases ey1
                | exc _ _ => simp only [ee, Rs.then] at ey1; cases ey1
                | ok r =>
                  simp only [ee, Rs.then] at ey1
                  intro v' F4 H4 x5 r5
                  cases er : r.toO with
                  | none => simp only [er] at ey1; cases ey1
                  | some o' =>
                    simp only [er] at ey1
                    cases ey1
                    cases el
                    have hacc4 : H4 D = some (.lst acc) := x5.hh D _ hacc3
                    have hFD4 : F4 D = none := by
                      cases z : F4 D with
                      | none => rfl
                      | some u =>
                        have := x5.nw D u z hFD3
                        rw [hacc3] at this
                        cases this
                    have ro4 : RepOs X.K T F4 H4 ys acc fp := RepOs.mono x5.ff _ _ _ ro3 (x5.stay (RepOs.dom _ _ _ ro3))
                    obtain ⟨fq, q1, q2⟩ : ∃ fq, RepO X.K T F4 H4 o' v' fq ∧ ∀ a ∈ fq, H3 a = none := by
                      cases r with
                      | my o2 =>
                        cases er
                        exact r5
                      | vw o2 =>
                        cases o2 with
                        | fz d =>
                          cases er
                          obtain ⟨fq, p1, p2⟩ := r5
                          exact ⟨[], ⟨p1, rfl⟩, fun _ z => nomatch z⟩
                        | lst _ => cases er
                        | ins _ _ _ => cases er
                    have hD3 : D ∉ fq := fun z => by
                      have := q2 D z
                      rw [hacc3] at this
                      cases this
                    obtain ⟨fz, s1, s2⟩ := RepOs.snoc q1 ro4 fun a ha hq => by
                      have h1 := q2 a hq
                      obtain ⟨_, u, hu⟩ := RepOs.dom _ _ _ ro3 a ha
                      rw [h1] at hu
                      cases hu
                    have hDz : D ∉ fz := fun z => (s2 D z).elim hDf hD3
                    have x6 : Ext F1 H1 F4 H4 := ((x2.trans x3).trans x4).trans x5
                    refine ⟨acc, hacc4, ?_, hlt, F4, ys ++ [o'], acc ++ [v'], fz, _, x6.mut hD hFD4, upd_same, hFD4, RepOs.mono (Same.refl _) _ _ _ s1 ⟨fun a ha u hu => ?_, fun a ha => (RepOs.dom _ _ _ s1 a ha).1⟩, hDz, fun a ha => ?_, ey', ?_⟩
                    · have hl := ro4.length
                      have : ys.length ≤ zs.length := by rw [ezs, List.length_append]; omega
                      omega
                    · rw [upd_ne fun z => hDz (by rw [← z]; exact ha)]
                      exact hu
                    · rcases s2 a ha with z | z
                      · exact hnew a z
                      · exact ((x2.trans x3).trans x4).hh.free (q2 a z)
                    · rw [ezs, List.append_assoc]
                      rfl
        · have ei : i = os.length := by omega
          subst ei
          rw [List.drop_length] at el
          cases el
          rw [List.append_nil] at ezs
          subst ezs
          refine .inl ⟨w2 _ (Nat.le_refl _), ?_⟩
          refine g' (.ref D) F' H' (x1.trans x2) ⟨D :: fp, ⟨D, acc, fp, rfl, hacc, hFD, ro, hDf, rfl⟩, fun a ha => ?_⟩
          rcases List.mem_cons.mp ha with rfl | ha
          · exact x1.hh.free hD
          · exact x1.hh.free (hnew a ha)
      · rw [if_neg hz] at g'
        exact g'.elim

theorem e_lc (c : Cap T M G lim k N sc W X) {elt : E} {t : Tg} {n : Nat} {src : List E} {ifs : List Te} {ex tg it : Expr} {cs : List Expr} {sc' : Scope} (hs : notSet it = true) (hi : PI X tg it (tI X.K T W G n src)) (hb : blkC N sc sc' (ownOf N t.slots) = true)
    (hg : ∀ (s : Shared) (H : Hp) (C : Addr) (cl : List (Str × Addr)) (fp : List Addr), PG (X.blk s H sc' (compEnvC sc' cl C X.env) fp) tg (tTg X.K T t))
    (ht : ∀ (s : Shared) (H : Hp) (C : Addr) (cl : List (Str × Addr)) (fp : List Addr), PTs (X.blk s H sc' (compEnvC sc' cl C X.env) fp) cs (tTs X.K T (fun _ _ _ => False) G ifs))
    (he : ∀ (s : Shared) (H : Hp) (C : Addr) (cl : List (Str × Addr)) (fp : List Addr), PE (X.blk s H sc' (compEnvC sc' cl C X.env) fp) ex (tE X.K T (fun _ _ _ => False) G elt)) :
    PE X (.ListComp ex [⟨tg, it, cs, 0⟩] sc' pos) (tE X.K T W G (.lc elt t n src ifs)) := by
  have hfs : ∀ z, foldedSetIterable it X.env z = pure z := by
    intro z
    cases it <;> first | rfl | cases hs
  refine PE_imp (pe_lc c.calm (by rw [c.hN]; exact c.nd) hi (blk_ok c hb) hg ht he hfs) fun σ H Q h => lc_imp h

/-- stored as it is made -/
theorem s_lc (c : Cap T M G lim k N sc W X) {i : Nat} {nm : Str} {py spos : Pos} {elt : E} {t : Tg} {n : Nat} {src : List E} {ifs : List Te} {ex tg it : Expr} {cs : List Expr} {sc' : Scope} (hi0 : N[i]? = some nm) (hnl : X.env.scope.names.lookup nm = some .local)
    (hsw : swapsWith (.ListComp ex [⟨tg, it, cs, 0⟩] sc' pos) (some (.Name nm py)) spos.line X.env = pure true) (hs : notSet it = true) (hi : PI X tg it (tI X.K T W G n src)) (hb : blkC N sc sc' (ownOf N t.slots) = true)
    (hg : ∀ (s : Shared) (H : Hp) (C : Addr) (cl : List (Str × Addr)) (fp : List Addr), PG (X.blk s H sc' (compEnvC sc' cl C X.env) fp) tg (tTg X.K T t))
    (ht : ∀ (s : Shared) (H : Hp) (C : Addr) (cl : List (Str × Addr)) (fp : List Addr), PTs (X.blk s H sc' (compEnvC sc' cl C X.env) fp) cs (tTs X.K T (fun _ _ _ => False) G ifs))
    (he : ∀ (s : Shared) (H : Hp) (C : Addr) (cl : List (Str × Addr)) (fp : List Addr), PE (X.blk s H sc' (compEnvC sc' cl C X.env) fp) ex (tE X.K T (fun _ _ _ => False) G elt)) :
    PS X (.Assign [.Name nm py] (.ListComp ex [⟨tg, it, cs, 0⟩] sc' pos) spos) (tAsg (tE X.K T W G (.lc elt t n src ifs)) (gName i)) := by
  have hfs : ∀ z, foldedSetIterable it X.env z = pure z := by
    intro z
    cases it <;> first | rfl | cases hs
  have q := ps_setLc c.calm (by rw [c.hN]; exact c.nd) (by rw [c.hN]; exact hi0) hnl hsw hi (blk_ok c hb) hg ht he hfs
  exact ⟨fun pins s σ H D I z => q.run pins s σ H D I (lc_imp z)⟩

/-! ### the theorem -/
theorem and4 {a b c d : Bool} (h : (a && b && c && d) = true) : a = true ∧ b = true ∧ c = true ∧ d = true := by
  simp only [Bool.and_eq_true] at h
  exact ⟨h.1.1.1, h.1.1.2, h.1.2, h.2⟩
theorem biFn_rule (c : Cap T M G lim k N sc W X) {b : Bi} {n : Str} {m : Nat} (h : biFn b = some (n, m)) : ∃ id, CallR X (.builtin id) (rB X.K T b) ∧ bootBuiltins n = some (.builtin id) ∧ n ≠ "__name__" ∧ (n == ("__debug__" : Str)) = false := by
  cases b <;> first | (cases h; done) | skip
  all_goals cases h
  · exact ⟨_, bi_len, by decide +kernel, by decide +kernel, by decide +kernel⟩
  · exact ⟨_, bi_abs, by decide +kernel, by decide +kernel, by decide +kernel⟩
  · exact ⟨_, bi_max2 c.calm, by decide +kernel, by decide +kernel, by decide +kernel⟩
  · exact ⟨_, bi_min2 c.calm, by decide +kernel, by decide +kernel, by decide +kernel⟩
  · exact ⟨_, bi_any c.calm, by decide +kernel, by decide +kernel, by decide +kernel⟩
  · exact ⟨_, bi_all c.calm, by decide +kernel, by decide +kernel, by decide +kernel⟩
  · exact ⟨_, bi_sum c.calm, by decide +kernel, by decide +kernel, by decide +kernel⟩
theorem biTy_rule (c : Cap T M G lim k N sc W X) {b : Bi} {n : Str} {m : Nat} (h : biTy b = some (n, m)) : ∃ id, CallR X (.type id) (rB X.K T b) ∧ bootBuiltins n = some (.type id) ∧ n ≠ "__name__" ∧ (n == ("__debug__" : Str)) = false := by
  cases b <;> first | (cases h; done) | skip
  all_goals cases h
  · exact ⟨_, bi_int, by decide +kernel, by decide +kernel, by decide +kernel⟩
  · exact ⟨_, bi_tuple, by decide +kernel, by decide +kernel, by decide +kernel⟩
  · exact ⟨_, bi_list, by decide +kernel, by decide +kernel, by decide +kernel⟩
  · exact ⟨_, bi_str, by decide +kernel, by decide +kernel, by decide +kernel⟩
theorem ok_W0 {op : BoolOp} {r : List Expr} {t : TT} (h1 : r = [] → PT X y t) (h2 : r ≠ [] → PW X (.BoolOp op (y :: r) pos) t) : PW X (.BoolOp op (y :: r) pos) t := by
  cases r with
  | nil => cases op with
    | And => exact pw_and1 (h1 rfl)
    | Or => exact pw_or1 (h1 rfl)
  | cons z r => exact h2 (by simp)
theorem isEmpty_nil {α : Type} {r : List α} (h : r.isEmpty = true) : r = [] := by
  cases r with
  | nil => rfl
  | cons _ _ => cases h
mutual
theorem ok_E : ∀ (c : E) (e : Expr) {sc : Scope} {W : XK} {X : Cx}, Cap T M G lim k N sc W X → okE M lim N sc c e = true → PE X e (tE X.K T W G c)
  | .k d, e, sc, W, X, c, h => by
    cases e <;> first | (cases h; done) | skip
    exact e_k h
  | .v i, e, sc, W, X, c, h => by
    cases e <;> first | (cases h; done) | skip
    simp only [okE, Bool.and_eq_true, decide_eq_true_eq] at h
    exact e_v c h.1.1 h.1.2 h.2
  | .g i, e, sc, W, X, c, h => by
    cases e <;> first | (cases h; done) | skip
    simp only [okE, Bool.and_eq_true, decide_eq_true_eq] at h
    exact e_g c h.1.1 h.1.2 h.2
  | .tup es, e, sc, W, X, c, h => by
    cases e <;> first | (cases h; done) | skip
    exact e_tup (ok_Es es _ c h)
  | .lst es, e, sc, W, X, c, h => by
    cases e <;> first | (cases h; done) | skip
    exact e_lst (ok_Es es _ c h)
  | .o2 op a b, e, sc, W, X, c, h => by
    cases e <;> first | (cases h; done) | skip
    · simp only [okE, Bool.and_eq_true] at h
      exact e_bin c h.1.1 (ok_E a _ c h.1.2) (ok_E b _ c h.2)
    · rename_i x os ys p
      match os, ys, h with
      | [o], [y], h =>
        obtain ⟨h1, h2, h3, h4⟩ := and4 h
        exact e_cmp c h1 h2 (ok_E a _ c h3) (ok_E b _ c h4)
      | [], _, h => cases h
      | [_], [], h => cases h
      | [_], _ :: _ :: _, h => cases h
      | _ :: _ :: _, _, h => cases h
  | .o1 .neg a, e, sc, W, X, c, h => by
    cases e <;> first | (cases h; done) | skip
    rename_i op x p
    cases op <;> first | (cases h; done) | skip
    exact e_neg c (ok_E a _ c h)
  | .o1 .isn a, e, sc, W, X, c, h => by
    unfold okE at h
    split at h <;> first | contradiction | (rename_i heq; cases heq; done) | skip
    rename_i heq
    cases heq
    exact e_isn c (ok_E a _ c h)
  | .o1 .notn a, e, sc, W, X, c, h => by
    unfold okE at h
    split at h <;> first | contradiction | (rename_i heq; cases heq; done) | skip
    rename_i heq
    cases heq
    exact e_notn c (ok_E a _ c h)
  | .not a, e, sc, W, X, c, h => by
    cases e <;> first | (cases h; done) | skip
    rename_i op x p
    cases op <;> first | (cases h; done) | skip
    exact e_not (ok_E a _ c h)
  | .and a b, e, sc, W, X, c, h => by
    unfold okE at h
    split at h <;> first | contradiction | (rename_i heq; cases heq; done) | skip
    rename_i heq
    cases heq
    rename_i x y r p
    obtain ⟨h1, h2⟩ := Bool.and_eq_true_iff.mp h
    refine e_and (t := fun _ _ _ => True) (pe_and_last c (ok_E a _ c h1) ?_)
    split at h2
    · rename_i hr
      rw [if_pos hr]
      exact ok_E b _ c h2
    · rename_i hr
      rw [if_neg hr]
      exact ok_E b _ c h2
  | .or a b, e, sc, W, X, c, h => by
    unfold okE at h
    split at h <;> first | contradiction | (rename_i heq; cases heq; done) | skip
    rename_i heq
    cases heq
    rename_i x y r p
    obtain ⟨h1, h2⟩ := Bool.and_eq_true_iff.mp h
    refine e_or (t := fun _ _ _ => True) (pe_or_last c (ok_E a _ c h1) ?_)
    split at h2
    · rename_i hr
      rw [if_pos hr]
      exact ok_E b _ c h2
    · rename_i hr
      rw [if_neg hr]
      exact ok_E b _ c h2
  | .ite t a b, e, sc, W, X, c, h => by
    cases e <;> first | (cases h; done) | skip
    simp only [okE, Bool.and_eq_true] at h
    exact e_ite (ok_T t _ c h.1.1) (ok_E a _ c h.1.2) (ok_E b _ c h.2)
  | .ix a i, e, sc, W, X, c, h => by
    cases e <;> first | (cases h; done) | skip
    simp only [okE, Bool.and_eq_true] at h
    exact e_ix (ok_E a _ c h.1.2) (ok_E i _ c h.2) h.1.1
  | .sl a lo hi, e, sc, W, X, c, h => by
    unfold okE at h
    split at h <;> first | contradiction | (rename_i heq; cases heq; done) | skip
    rename_i heq
    cases heq
    simp only [Bool.and_eq_true] at h
    exact e_sl (ok_E a _ c h.1.1) (ok_O lo _ c h.1.2) (ok_O hi _ c h.2)
  | .call f es, e, sc, W, X, c, h => by
    unfold okE at h
    split at h <;> first | contradiction | (rename_i heq; cases heq; done) | skip
    rename_i heq
    cases heq
    rename_i n p args p2
    simp only [Bool.and_eq_true, decide_eq_true_eq] at h
    obtain ⟨⟨⟨⟨⟨h1, h2⟩, h3⟩, h4⟩, h5⟩, h6⟩ := h
    split at h2
    · rename_i i hi
      simp only [Bool.and_eq_true, decide_eq_true_eq, beq_iff_eq] at h2
      obtain ⟨⟨⟨⟨h7, hko⟩, h8⟩, h9⟩, h10⟩ := h2
      have hko := Bool.not_eq_true' _ ▸ hko
      have hns := okEs_noStars h5
      cases es with
      | nil => cases h6
      | cons e0 es =>
        cases args with
        | nil => cases h5
        | cons z zs =>
          have hns' := Bool.and_eq_true_iff.mp hns
          exact e_call c h1 hi h7 hko h8 (isEmpty_nil h9) h10 h3 h4 hns'.1 (fun pos => backTo_plain pos hns'.2) (ok_Es (e0 :: es) (z :: zs) c h5)
    · cases h2
  | .bi b es, e, sc, W, X, c, h => by
    unfold okE at h
    split at h <;> first | contradiction | (rename_i heq; cases heq; done) | skip
    rename_i heq
    cases heq
    rename_i n p args p2
    simp only [Bool.and_eq_true] at h
    obtain ⟨⟨⟨h1, h2⟩, h3⟩, h4⟩ := h
    have hns := okEs_noStars h4
    split at h1
    · rename_i m j hf
      simp only [Bool.and_eq_true, decide_eq_true_eq, beq_iff_eq] at h1
      obtain ⟨e1, e2⟩ := h1
      subst e1
      obtain ⟨id, r1, r2, r3, r4⟩ := biFn_rule c hf
      cases args with
      | nil =>
        cases es with
        | nil => cases b <;> first | (cases hf; done) | (cases hf; cases e2)
        | cons _ _ => cases h4
      | cons z zs =>
        have hns' := Bool.and_eq_true_iff.mp hns
        exact e_biF c r1 r2 r3 r4 h2 h3 hns'.1 (fun pos => backTo_plain pos hns'.2) (ok_Es es (z :: zs) c h4)
    · rename_i m j _ hf
      simp only [Bool.and_eq_true, decide_eq_true_eq, beq_iff_eq] at h1
      obtain ⟨e1, e2⟩ := h1
      subst e1
      obtain ⟨id, r1, r2, r3, r4⟩ := biTy_rule c hf
      cases args with
      | nil =>
        cases es with
        | nil => cases b <;> first | (cases hf; done) | (cases hf; cases e2)
        | cons _ _ => cases h4
      | cons z zs =>
        have hns' := Bool.and_eq_true_iff.mp hns
        exact e_biT c r1 r2 r3 r4 h2 h3 hns'.1 (fun pos => backTo_plain pos hns'.2) (ok_Es es (z :: zs) c h4)
    · cases h1
  | .is1 b a, e, sc, W, X, c, h => by
    unfold okE at h
    split at h <;> first | contradiction | (rename_i heq; cases heq; done) | skip
    rename_i heq
    cases heq
    rename_i t n p e1 m p2 p3
    simp only [Bool.and_eq_true, decide_eq_true_eq] at h
    obtain ⟨⟨⟨⟨⟨⟨⟨⟨h1, h2⟩, h3⟩, h4⟩, h5⟩, h6⟩, h7⟩, h8⟩, h9⟩ := h
    exact e_is1 c h1 h2 h3 h4 h5 h6 h7 h8 (ok_E a _ c h9)
  | .isc d a, e, sc, W, X, c, h => by
    unfold okE at h
    split at h <;> first | contradiction | (rename_i heq; cases heq; done) | skip
    rename_i heq
    cases heq
    rename_i n p e1 m p2 p3
    simp only [Bool.and_eq_true, decide_eq_true_eq] at h
    obtain ⟨⟨⟨⟨⟨⟨⟨h1, h2⟩, h3⟩, h4⟩, h5⟩, h6⟩, h7⟩, h8⟩ := h
    split at h4
    · rename_i i hi
      exact e_isc c h1 h2 h3 hi (of_decide_eq_true h4) h5 h6 h7 (ok_E a _ c h8)
    · cases h4
  | .mk d f es, e, sc, W, X, c, h => by
    unfold okE at h
    split at h <;> first | contradiction | (rename_i heq; cases heq; done) | skip
    rename_i heq
    cases heq
    rename_i n p args p2
    simp only [Bool.and_eq_true, decide_eq_true_eq] at h
    obtain ⟨⟨⟨⟨⟨h1, h2⟩, h3⟩, h4⟩, h5⟩, h6⟩ := h
    split at h2
    · rename_i i j hi hj
      simp only [Bool.and_eq_true, decide_eq_true_eq, beq_iff_eq] at h2
      obtain ⟨⟨⟨⟨h7, h8⟩, h9⟩, h10⟩, hko⟩ := h2
      have hko := Bool.not_eq_true' _ ▸ hko
      have hns := okEs_noStars h5
      cases es with
      | nil => cases h6
      | cons e0 es =>
        cases args with
        | nil => cases h5
        | cons z zs =>
          have hns' := Bool.and_eq_true_iff.mp hns
          exact e_mk c h1 hi hj hko h7 (List.contains_iff_mem.mp h8) h10 h9 h3 h4 hns'.1 (fun pos => backTo_plain pos hns'.2) (ok_Es (e0 :: es) (z :: zs) c h5)
    · cases h2
  | .fld a f, e, sc, W, X, c, h => by
    cases e <;> first | (cases h; done) | skip
    simp only [okE, Bool.and_eq_true, decide_eq_true_eq] at h
    exact e_fld c h.1.1 h.1.2 (ok_E a _ c h.2)
  | .fs es, e, sc, W, X, c, h => by
    unfold okE at h
    split at h <;> first | contradiction | (rename_i heq; cases heq; done) | skip
    rename_i heq
    cases heq
    exact e_fs (ok_Fs es _ c h)
  | .lc elt t n src ifs, e, sc, W, X, c, h => by
    unfold okE at h
    split at h <;> first | contradiction | (rename_i heq; cases heq; done) | skip
    rename_i heq
    cases heq
    rename_i ex tg it cs sc' p
    simp only [Bool.and_eq_true] at h
    obtain ⟨⟨⟨⟨⟨h1, h2⟩, h3⟩, h4⟩, h5⟩, h6⟩ := h
    exact e_lc c h5 (ok_I n src tg it c h4) h6 (fun s H C cl fp => ok_Tg (cap_blk c s H C cl fp) t tg h2) (fun s H C cl fp => ok_Ts ifs cs (cap_blk c s H C cl fp) h3) (fun s H C cl fp => ok_E elt ex (cap_blk c s H C cl fp) h1)
theorem ok_Es : ∀ (cs : List E) (es : List Expr) {sc : Scope} {W : XK} {X : Cx}, Cap T M G lim k N sc W X → okEs M lim N sc cs es = true → PA X es (tEs X.K T W G cs)
  | [], es, sc, W, X, c, h => by
    cases es with
    | nil => exact es_nil
    | cons _ _ => cases h
  | a :: cs, es, sc, W, X, c, h => by
    cases es with
    | nil => cases h
    | cons e es =>
      simp only [okEs, Bool.and_eq_true] at h
      exact es_cons h.1.1 (ok_E a e c h.1.2) (ok_Es cs es c h.2)
theorem ok_Fs : ∀ (cs : List E) (es : List Expr) {sc : Scope} {W : XK} {X : Cx}, Cap T M G lim k N sc W X → okFs M lim N sc cs es = true → Parts X T W G cs es
  | [], es, sc, W, X, c, h => by
    cases es with
    | nil => exact .nil
    | cons _ _ => cases h
  | a :: cs, es, sc, W, X, c, h => by
    cases es with
    | nil => cases h
    | cons e es =>
      simp only [okFs, Bool.and_eq_true] at h
      refine .cons ?_ (ok_Fs cs es c h.2)
      have h1 := h.1
      split at h1
      · exact part_fmt (ok_E a _ c h1)
      · split at h1
        · obtain rfl := eq_of_beq h1
          exact part_str
        · cases h1
      · cases h1
theorem ok_O : ∀ (cs : List E) (e : Option Expr) {sc : Scope} {W : XK} {X : Cx}, Cap T M G lim k N sc W X → okO M lim N sc cs e = true → PO X e (tEo X.K T W G cs)
  | [], e, sc, W, X, c, h => by
    cases e with
    | none => exact o_none
    | some _ => cases h
  | [a], e, sc, W, X, c, h => by
    cases e with
    | none => cases h
    | some e => exact o_some (ok_E a e c h)
  | _ :: _ :: _, e, sc, W, X, c, h => by cases e <;> cases h
theorem ok_T : ∀ (t : Te) (e : Expr) {sc : Scope} {W : XK} {X : Cx}, Cap T M G lim k N sc W X → okT M lim N sc t e = true → PT X e (tT X.K T W G t)
  | .not a, e, sc, W, X, c, h => by
    unfold okT at h
    split at h <;> first | contradiction | (rename_i heq; cases heq; done) | skip
    rename_i heq
    cases heq
    exact t_not (ok_T a _ c h)
  | .and a b, e, sc, W, X, c, h => by
    unfold okT at h
    split at h <;> first | contradiction | (rename_i heq; cases heq; done) | skip
    rename_i heq
    cases heq
    rename_i x y r p
    obtain ⟨h1, h2⟩ := Bool.and_eq_true_iff.mp h
    refine (t_and (ok_T a _ c h1) ?_).pt
    split at h2
    · rename_i hr
      cases isEmpty_nil hr
      exact pw_and1 (ok_T b _ c h2)
    · exact ok_PW b _ _ _ c h2
  | .or a b, e, sc, W, X, c, h => by
    unfold okT at h
    split at h <;> first | contradiction | (rename_i heq; cases heq; done) | skip
    rename_i heq
    cases heq
    rename_i x y r p
    obtain ⟨h1, h2⟩ := Bool.and_eq_true_iff.mp h
    refine (t_or (ok_T a _ c h1) ?_).pt
    split at h2
    · rename_i hr
      cases isEmpty_nil hr
      exact pw_or1 (ok_T b _ c h2)
    · exact ok_PW b _ _ _ c h2
  | .o2 op a b, e, sc, W, X, c, h => by
    unfold okT at h
    split at h <;> first | contradiction | (rename_i heq; cases heq; done) | skip
    rename_i heq
    cases heq
    obtain ⟨h1, h2, h3, h4⟩ := and4 h
    exact t_cmp c h1 h2 (ok_E a _ c h3) (ok_E b _ c h4)
  | .o1 .neg a, e, sc, W, X, c, h => by
    cases h
  | .o1 .isn a, e, sc, W, X, c, h => by
    unfold okT at h
    split at h <;> first | contradiction | (rename_i heq; cases heq; done) | skip
    rename_i heq
    cases heq
    exact t_isn c (ok_E a _ c h)
  | .o1 .notn a, e, sc, W, X, c, h => by
    unfold okT at h
    split at h <;> first | contradiction | (rename_i heq; cases heq; done) | skip
    rename_i heq
    cases heq
    exact t_notn c (ok_E a _ c h)
  | .e a, e, sc, W, X, c, h => by
    have h' : (plainT e && okE M lim N sc a e) = true := h
    obtain ⟨h1, h2⟩ := Bool.and_eq_true_iff.mp h'
    exact t_e h1 (ok_E a e c h2)
theorem ok_PW : ∀ (t : Te) (op : BoolOp) (es : List Expr) (p : Pos) {sc : Scope} {W : XK} {X : Cx}, Cap T M G lim k N sc W X → okT M lim N sc t (.BoolOp op es p) = true → PW X (.BoolOp op es p) (tT X.K T W G t)
  | .not a, op, es, p, sc, W, X, c, h => by cases h
  | .and a b, op, es, p, sc, W, X, c, h => by
    cases op with
    | Or => cases h
    | And =>
      match es, h with
      | x :: y :: r, h =>
        obtain ⟨h1, h2⟩ := Bool.and_eq_true_iff.mp h
        refine t_and (ok_T a _ c h1) ?_
        split at h2
        · rename_i hr
          cases isEmpty_nil hr
          exact pw_and1 (ok_T b _ c h2)
        · exact ok_PW b _ _ _ c h2
      | [], h => cases h
      | [_], h => cases h
  | .or a b, op, es, p, sc, W, X, c, h => by
    cases op with
    | And => cases h
    | Or =>
      match es, h with
      | x :: y :: r, h =>
        obtain ⟨h1, h2⟩ := Bool.and_eq_true_iff.mp h
        refine t_or (ok_T a _ c h1) ?_
        split at h2
        · rename_i hr
          cases isEmpty_nil hr
          exact pw_or1 (ok_T b _ c h2)
        · exact ok_PW b _ _ _ c h2
      | [], h => cases h
      | [_], h => cases h
  | .o2 op a b, op', es, p, sc, W, X, c, h => by cases h
  | .o1 o a, op, es, p, sc, W, X, c, h => by cases o <;> cases h
  | .e a, op, es, p, sc, W, X, c, h => by
    have h' : (plainT (.BoolOp op es p) && okE M lim N sc a (.BoolOp op es p)) = true := h
    exact nomatch (Bool.and_eq_true_iff.mp h').1
theorem ok_Ts : ∀ (ts : List Te) (es : List Expr) {sc : Scope} {W : XK} {X : Cx}, Cap T M G lim k N sc W X → okTs M lim N sc ts es = true → PTs X es (tTs X.K T W G ts)
  | [], es, sc, W, X, c, h => by
    cases es with
    | nil => exact ts_nil
    | cons _ _ => cases h
  | [a], es, sc, W, X, c, h => by
    match es, h with
    | [e], h => exact ts_one (ok_T a e c h)
    | [], h => cases h
    | _ :: _ :: _, h => cases h
  | _ :: _ :: _, es, sc, W, X, c, h => by cases es <;> cases h
theorem ok_I : ∀ (n : Nat) (cs : List E) (tg e : Expr) {sc : Scope} {W : XK} {X : Cx}, Cap T M G lim k N sc W X → okI M lim N sc n cs e = true → PI X tg e (tI X.K T W G n cs)
  | 0, [a], tg, e, sc, W, X, c, h => i_any (ok_E a e c h)
  | 1, [a], tg, e, sc, W, X, c, h => by
    unfold okI at h
    split at h <;> first | contradiction | (rename_i heq; cases heq; done) | skip
    rename_i heq
    cases heq
    rename_i n p e1 p2
    simp only [Bool.and_eq_true, decide_eq_true_eq] at h
    obtain ⟨⟨⟨⟨h1, h2⟩, h3⟩, h4⟩, h5⟩ := h
    exact i_range1 c h1 h2 h3 h4 (es_cons h4 (ok_E a _ c h5) es_nil)
  | 2, [a, b], tg, e, sc, W, X, c, h => by
    unfold okI at h
    split at h <;> first | contradiction | (rename_i heq; cases heq; done) | skip
    rename_i heq
    cases heq
    rename_i n p e1 e2 p2
    simp only [Bool.and_eq_true, decide_eq_true_eq] at h
    obtain ⟨⟨⟨⟨⟨⟨h1, h2⟩, h3⟩, h4⟩, h5⟩, h6⟩, h7⟩ := h
    exact i_range2 c h1 h2 h3 h4 h5 (es_cons h4 (ok_E a _ c h6) (es_cons h5 (ok_E b _ c h7) es_nil))
  | 0, [], _, _, _, _, _, _, h => by cases h
  | 0, _ :: _ :: _, _, _, _, _, _, _, h => by cases h
  | 1, [], _, _, _, _, _, _, h => by cases h
  | 1, _ :: _ :: _, _, _, _, _, _, _, h => by cases h
  | 2, [], _, _, _, _, _, _, h => by cases h
  | 2, [_], _, _, _, _, _, _, h => by cases h
  | 2, _ :: _ :: _ :: _, _, _, _, _, _, _, h => by cases h
  | n + 3, cs, _, _, _, _, _, _, h => by
    unfold okI at h
    split at h <;> first | contradiction | omega
end
end
end Ml

set_option Elab.async false
set_option linter.all false
set_option maxRecDepth 100000
set_option maxHeartbeats 4000000
/-! M10: statements: what they mean, when they stand for the text's. -/
namespace Ml
open PySem PySem.Spec PyProof.Rows L2

inductive Mu where
  | app | ins | pop | popAt | ext
/-- an argument: a slot that is lent, or a value -/
inductive Ag where
  | r (i : Nat) | e (x : E)
/-- what is called: a def, a new object -/
inductive Cl where
  | fn (f : Nat) | mk (c f : Nat) | kw (c m : Nat)
inductive S where
  | asg (fr : Bool) (t : Tg) (x : E)
  | aug (i : Nat) (op : O2) (x : E)
  | setf (i f : Nat) (x : E)
  | seti (i : Nat) (p : List E) (j : E) (x : E)
  | mut (i : Nat) (p : List E) (m : Mu) (es : List E)
  | callr (d : Option Nat) (fr : Bool) (f : Cl) (as : List Ag)
  | setC (i f : Nat) (c : Cl) (as : List Ag)
  | each (i t : Nat) (x : E)
  | ret (x : E) | retN | retC (f : Cl) (as : List Ag)
  | expr (x : E)
  | ite (c : Te) (a b : List S)
  | for_ (t : Tg) (s : Nat) (src : List E) (b : List S)
  | while_ (c : Te) (b : List S)
  | raise (c f : Nat) (es : List E)
  | brk | cnt | pass | frz (i : Nat)

inductive Out where
  | nx (st : Ml.St) | ret (o : O) (st : Ml.St) | brk (st : Ml.St) | cnt (st : Ml.St) | exc (c : Nat) (ds : List D) | bad
@[simp] def Rs.out {α : Type} (r : Rs α) (f : α → Out) : Out := match r with
  | .ok a => f a
  | .exc c ds => .exc c ds
  | .bad => .bad
@[simp] def opt {α : Type} (o : Option α) (f : α → Out) : Out := match o with
  | some a => f a
  | none => .bad
@[simp] def Out.then (r : Out) (f : Ml.St → Out) : Out := match r with
  | .nx st => f st
  | r => r
/-- the ints of a path -/
def pInts : List Rv → Option (List Int)
  | [] => some []
  | r :: rs => match int? r.o, pInts rs with
    | some i, some is => some (i :: is)
    | _, _ => none
/-- what stands at a path of lists -/
def getP : List Int → O → Option O
  | [], o => some o
  | k :: ks, .lst os => match ixN os.length k with
    | some j => match os[j]? with
      | some o => getP ks o
      | none => none
    | none => none
  | _ :: _, _ => none
/-- put n there -/
def setP : List Int → O → O → O
  | [], _, n => n
  | k :: ks, .lst os, n => match ixN os.length k with
    | some j => match os[j]? with
      | some o => .lst (os.set j (setP ks o n))
      | none => .lst os
    | none => .lst os
  | _ :: _, o, _ => o
/-- a method of a list: its new items, its answer -/
def muO : Mu → List O → List O → Option (List O × O)
  | .app, os, [x] => if os.length < sizeLine then some (os ++ [x], .fz .non) else none
  | .ins, os, [i, x] => match int? i with
    | some k => if os.length < sizeLine ∧ 0 ≤ k ∧ k < 2 ^ 63 then some (os.take k.toNat ++ x :: os.drop k.toNat, .fz .non) else none
    | none => none
  | .pop, os, [] => match os[os.length - 1]? with
    | some o => some (os.dropLast, o)
    | none => none
  | _, _, _ => none
/-- a field put -/
def putN (f : Nat) (o : O) : List Nat → List O → List Nat × List O
  | n :: ns, x :: os => if n = f then (n :: ns, o :: os) else let r := putN f o ns os; (n :: r.1, x :: r.2)
  | _, _ => ([f], [o])
def opI : O2 → Option (Int → Int → Int)
  | .add => some fun i j => i + j
  | .sub => some fun i j => i - j
  | _ => none
/-- the arguments of a call whose slots may be lent -/
def evA (G : Gl) : List Ag → Ml.St → Rs (List O)
  | [], _ => .ok []
  | .r i :: as, st => match st[i]? with
    | some (some o) => (evA G as st).then fun os => .ok (o :: os)
    | _ => .bad
  | .e x :: as, st => (ev G x st).then fun r => match r.toD with
    | some d => (evA G as st).then fun os => .ok (.fz d :: os)
    | none => .bad
/-- the lent slots hold what came back -/
def backA : List Ag → List O → Ml.St → Option Ml.St
  | [], [], st => some st
  | .r i :: as, o :: os, st => backA as os (st.set i (some o))
  | .e _ :: as, os, st => backA as os st
  | _, _, _ => none
/-- a call with lent slots: the answer, the state behind it -/
def callA (G : Gl) (c : Cl) (as : List Ag) (st : Ml.St) : Rs (O × Ml.St) := (evA G as st).then fun os => match c with
  | .fn f => (G.fs f os).then fun r => match backA as r.2 st with
    | some st' => .ok (r.1, st')
    | none => .bad
  | .mk c f => (G.fs f (.ins c [] [] :: os)).then fun r => match r with
    | (.fz .non, o :: os') => match backA as os' st with
      | some st' => .ok (o, st')
      | none => .bad
    | _ => .bad
  | .kw c m => match G.kw[m]? with
    | none => .bad
    | some κ => (G.fs κ.f (pick κ.pl (.ins c [] [] :: (os ++ κ.ds.map .fz)))).then fun r => match r with
      | (.fz .non, o :: os') => match backA as os' st with
        | some st' => .ok (o, st')
        | none => .bad
      | _ => .bad
/-- d is put behind a list -/
def appO (d : D) : O → Option O
  | .lst xs => if xs.length < sizeLine then some (.lst (xs ++ [.fz d])) else none
  | _ => none
def appL (d : D) : List O → Option (List O)
  | [] => some []
  | o :: os => match appO d o, appL d os with
    | some p, some ps => some (p :: ps)
    | _, _ => none
/-- a loop over ds -/
def forL (f : D → Ml.St → Out) : List D → Ml.St → Out
  | [], st => .nx st
  | d :: ds, st => match f d st with
    | .nx st => forL f ds st
    | .cnt st => forL f ds st
    | .brk st => .nx st
    | r => r
/-- a loop, at most n turns -/
def whL (c : Ml.St → Rs Bool) (f : Ml.St → Out) : Nat → Ml.St → Out
  | 0, _ => .bad
  | n + 1, st => (c st).out fun b => if b then (match f st with
    | .nx st => whL c f n st
    | .cnt st => whL c f n st
    | .brk st => .nx st
    | r => r) else .nx st
def fuel : Nat := 1000000
mutual
def exec (G : Gl) : S → Ml.St → Out
  | .asg fr t x, st => (ev G x st).out fun r => opt (if fr then r.toD.map .fz else r.toO) fun o => opt (bindT t o st) .nx
  | .aug i op x, st => match st[i]? with
    | some (some o) => (ev G x st).out fun r => opt (opI op) fun f => opt (int? o) fun a => opt (int? r.o) fun b => .nx (st.set i (some (.fz (.int (f a b)))))
    | _ => .bad
  | .setf i f x, st => (ev G x st).out fun r => opt r.toO fun o => match st[i]? with
    | some (some (.ins c ns os)) => if okF G.fl c f ∧ ns.length = os.length ∧ ns.length < 999 then .nx (st.set i (some (.ins c (putN f o ns os).1 (putN f o ns os).2))) else .bad
    | _ => .bad
  | .seti i p j x, st => (ev G x st).out fun r => opt r.toO fun o => match st[i]? with
    | some (some root) => (evs G p st).calm.out fun rs => opt (pInts rs) fun ks => match getP ks root with
      | some (.lst os) => (ev G j st).out fun rj => opt (int? rj.o) fun k => opt (ixN os.length k) fun m => .nx (st.set i (some (setP ks root (.lst (os.set m o)))))
      | _ => .bad
    | _ => .bad
  | .mut i p m es, st => match st[i]? with
    | some (some root) => (evs G p st).calm.out fun rs => opt (pInts rs) fun ks => match getP ks root with
      | some (.lst os) => (evs G es st).out fun ra => opt (toOs ra) fun as => opt (muO m os as) fun q => .nx (st.set i (some (setP ks root (.lst q.1))))
      | _ => .bad
    | _ => .bad
  | .callr d fr c as, st => (callA G c as st).out fun q => match d with
    | none => .nx q.2
    | some i => .nx (q.2.set i (some (if fr then .fz q.1.d else q.1)))
  | .setC i f c as, st => (callA G c as st).out fun q => match q.2[i]? with
    | some (some (.ins c ns os)) => if okF G.fl c f ∧ ns.length = os.length ∧ ns.length < 999 then .nx (q.2.set i (some (.ins c (putN f q.1 ns os).1 (putN f q.1 ns os).2))) else .bad
    | _ => .bad
  | .each i t x, st => match st[i]? with
    | some (some (.lst os)) => if i = t ∨ st.length ≤ t then .bad else (ev G x ((st.set t none).set i none)).calm.out fun r => opt r.toD fun d => opt (appL d os) fun ps => .nx ((st.set t none).set i (some (.lst ps)))
    | _ => .bad
  | .ret x, st => (ev G x st).out fun r => match r with
    | .my o => .ret o st
    | .vw (.fz d) => .ret (.fz d) st
    | .vw o => match x with
      | .v i => .ret o (st.set i none)
      | _ => .bad
  | .retN, st => .ret (.fz .non) st
  | .retC c as, st => (callA G c as st).out fun q => .ret q.1 q.2
  | .expr x, st => (ev G x st).out fun _ => .nx st
  | .ite c a b, st => (et G c st).out fun t => if t then execs G a st else execs G b st
  | .for_ t s src b, st => (evs G src st).out fun rs => opt (toDs rs) fun ds => opt (walkO s (ds.map .fz)) fun os =>
    forL (fun d st => opt (bindT t (.fz d) st) fun st => execs G b st) (O.ds os) st
  | .while_ c b, st => whL (fun st => et G c st) (fun st => execs G b st) fuel st
  | .raise c f es, st => (evs G es st).out fun rs => opt (toDs rs) fun ds => .exc c ds
  | .brk, st => .brk st
  | .cnt, st => .cnt st
  | .pass, st => .nx st
  | .frz i, st => match st[i]? with
    | some (some o) => .nx (st.set i (some (.fz o.d)))
    | _ => .bad
def execs (G : Gl) : List S → Ml.St → Out
  | [], st => .nx st
  | s :: ss, st => (exec G s st).then fun st => execs G ss st
end
/-- the slots that were lent to the def itself -/
def refsOf : List Nat → Ml.St → Option (List O)
  | [], _ => some []
  | i :: is, st => match st[i]?, refsOf is st with
    | some (some o), some os => some (o :: os)
    | _, _ => none
/-- a def: its text's slots n, the lent parameters, its body -/
def runF (G : Gl) (n : Nat) (refs : List Nat) (b : List S) (os : List O) : Rs (O × List O) :=
  match execs G b (os.map some ++ List.replicate (n - os.length) none) with
  | .nx st => match refsOf refs st with
    | some rs => .ok (.fz .non, rs)
    | none => .bad
  | .ret o st => match refsOf refs st with
    | some rs => .ok (o, rs)
    | none => .bad
  | .exc c ds => .exc c ds
  | _ => .bad

/-! ### the text -/
def notLc : Expr → Bool
  | .ListComp _ _ _ _ => false
  | .SetComp _ _ _ _ => false
  | .DictComp _ _ _ _ _ => false
  | _ => true
def notTup : Expr → Bool
  | .Tuple _ _ _ => false
  | .List _ _ => false
  | _ => true
def nameOf : Expr → Option (Str × Pos)
  | .Name x p => some (x, p)
  | _ => none
/-- the comprehension is stored by itself -/
def swapB (sc : Scope) (y : Str) (py : Pos) : Expr → Bool
  | .ListComp _ _ sc' pos => decide (sc.names.lookup y = some .local) && (py.line == pos.line) && !(sc'.names.any fun (n, k) => n == y && (k == .local || k == .cell))
  | _ => false
def muNm : Mu → Str × Nat
  | .app => ("append", 1)
  | .ins => ("insert", 2)
  | .pop => ("pop", 0)
  | .popAt => ("pop", 1)
  | .ext => ("extend", 1)
/-- the expression slot[p1][p2].. -/
def pathE : Nat → List E → E
  | i, [] => .v i
  | i, p => (p.foldl (fun a k => .ix a k) (.v i))
/-- a place: the slot i, then a path of indices, from the outside -/
def okP (M : Gm) (lim : Nat) (N : List Str) (sc : Scope) (i : Nat) : List E → Expr → Bool
  | [], .Name x _ => decide (N[i]? = some x) && locB sc x && !dbg x
  | k :: ks, .Subscript x s _ => notSlice s && okP M lim N sc i ks x && okE M lim N sc k s
  | _, _ => false
end Ml

set_option Elab.async false
set_option linter.all false
set_option maxRecDepth 100000
set_option maxHeartbeats 4000000
/-! M11: the slots of a def, each with what it owns. -/
namespace Ml
open PySem PySem.Spec PyProof.Rows L2
section
variable {K : PySem.W.Frag} {T : Tb}
/-- fp, but l at i -/
def upN (fp : Nat → List Addr) (i : Nat) (l : List Addr) : Nat → List Addr := fun j => if j = i then l else fp j
theorem upN_at {fp : Nat → List Addr} {i : Nat} {l : List Addr} : upN fp i l i = l := if_pos rfl
theorem upN_ne {fp : Nat → List Addr} {i j : Nat} {l : List Addr} (h : j ≠ i) : upN fp i l j = fp j := if_neg h
/-- each slot that holds something holds it; what it owns is its own -/
structure RepS (K : PySem.W.Frag) (T : Tb) (F H : Hp) (σ : L2.St) (st : Ml.St) (fp : Nat → List Addr) : Prop where
  len : σ.length = st.length
  at_ : ∀ (i : Nat) (o : O), st[i]? = some (some o) → ∃ v, σ[i]? = some (some v) ∧ RepO K T F H o v (fp i)
  dis : ∀ i j a, a ∈ fp i → a ∈ fp j → i = j
  dom : ∀ i a, a ∈ fp i → F a = none ∧ ∃ u, H a = some u
theorem RepS.srel {F H : Hp} {σ : L2.St} {st : Ml.St} {fp : Nat → List Addr} (r : RepS K T F H σ st fp) : SRel K T F H σ st := ⟨r.len, fun i o e => by
  obtain ⟨v, h1, h2⟩ := r.at_ i o e
  exact ⟨v, h1, fp i, h2⟩⟩
/-- one slot, and what is its own, may change -/
theorem RepS.upd {F H F' H' : Hp} {σ σ' : L2.St} {st st' : Ml.St} {fp : Nat → List Addr} {i : Nat} {l : List Addr} (r : RepS K T F H σ st fp) (hs : Same F F') (stay : ∀ j, j ≠ i → Stay F' H H' (fp j))
    (hl : σ'.length = st'.length) (hσ : ∀ j, j ≠ i → σ'[j]? = σ[j]?) (hst : ∀ j, j ≠ i → st'[j]? = st[j]?) (hat : ∀ o, st'[i]? = some (some o) → ∃ v, σ'[i]? = some (some v) ∧ RepO K T F' H' o v l)
    (dis : ∀ a ∈ l, ∀ j, j ≠ i → a ∉ fp j) (dom : ∀ a ∈ l, F' a = none ∧ ∃ u, H' a = some u) : RepS K T F' H' σ' st' (upN fp i l) := by
  refine ⟨hl, fun j o e => ?_, fun j k a h1 h2 => ?_, fun j a h => ?_⟩
  · by_cases z : j = i
    · subst z
      rw [upN_at]
      exact hat o e
    · rw [upN_ne z, hσ j z]
      rw [hst j z] at e
      obtain ⟨v, e1, q⟩ := r.at_ j o e
      exact ⟨v, e1, RepO.mono hs o v _ q (stay j z)⟩
  · by_cases z : j = i
    · by_cases y : k = i
      · rw [z, y]
      · subst z
        rw [upN_at] at h1
        rw [upN_ne y] at h2
        exact absurd h2 (dis a h1 k y)
    · by_cases y : k = i
      · subst y
        rw [upN_at] at h2
        rw [upN_ne z] at h1
        exact absurd h1 (dis a h2 j z)
      · rw [upN_ne z] at h1
        rw [upN_ne y] at h2
        exact r.dis j k a h1 h2
  · by_cases z : j = i
    · subst z
      rw [upN_at] at h
      exact dom a h
    · rw [upN_ne z] at h
      obtain ⟨d1, u, d2⟩ := r.dom j a h
      exact ⟨(stay j z).free a h, u, (stay j z).same a h u d2⟩
theorem RepS.ext {F H F' H' : Hp} {σ : L2.St} {st : Ml.St} {fp : Nat → List Addr} (r : RepS K T F H σ st fp) (x : Ext F H F' H') : RepS K T F' H' σ st fp := by
  have stay : ∀ j, Stay F' H H' (fp j) := fun j => x.stay fun a ha => r.dom j a ha
  refine ⟨r.len, fun i o e => ?_, r.dis, fun i a h => ?_⟩
  · obtain ⟨v, e1, q⟩ := r.at_ i o e
    exact ⟨v, e1, RepO.mono x.ff o v _ q (stay i)⟩
  · obtain ⟨d1, u, d2⟩ := r.dom i a h
    exact ⟨(stay i).free a h, u, (stay i).same a h u d2⟩
theorem Stay.refl {F H : Hp} {l : List Addr} (h : ∀ a ∈ l, F a = none) : Stay F H H l := ⟨fun _ _ _ e => e, h⟩
/-- a slot takes something new -/
theorem RepS.set {F H : Hp} {σ : L2.St} {st : Ml.St} {fp : Nat → List Addr} {i : Nat} {o : O} {v : V} {l : List Addr} (r : RepS K T F H σ st fp) (q : RepO K T F H o v l) (dis : ∀ a ∈ l, ∀ j, j ≠ i → a ∉ fp j) :
    RepS K T F H (σ.set i (some v)) (st.set i (some o)) (upN fp i l) := by
  refine r.upd (Same.refl _) (fun j _ => Stay.refl fun a ha => (r.dom j a ha).1) (by rw [List.length_set, List.length_set, r.len]) (fun j z => List.getElem?_set_ne (Ne.symm z)) (fun j z => List.getElem?_set_ne (Ne.symm z)) (fun o' e => ?_) dis fun a ha => RepO.dom o v l q a ha
  by_cases hl : i < st.length
  · rw [List.getElem?_set_self hl] at e
    cases e
    exact ⟨v, List.getElem?_set_self (by rw [r.len]; exact hl), q⟩
  · rw [List.getElem?_eq_none (by rw [List.length_set]; omega)] at e
    cases e
/-- a slot is given away -/
theorem RepS.drop {F H : Hp} {σ : L2.St} {st : Ml.St} {fp : Nat → List Addr} {i : Nat} (r : RepS K T F H σ st fp) : RepS K T F H σ (st.set i none) (upN fp i []) := by
  refine r.upd (Same.refl _) (fun j _ => Stay.refl fun a ha => (r.dom j a ha).1) (by rw [List.length_set, r.len]) (fun j z => rfl) (fun j z => List.getElem?_set_ne (Ne.symm z)) (fun o' e => ?_) (fun _ z => nomatch z) fun _ z => nomatch z
  by_cases hl : i < st.length
  · rw [List.getElem?_set_self hl] at e
    cases e
  · rw [List.getElem?_eq_none (by rw [List.length_set]; omega)] at e
    cases e
/-- a slot is frozen -/
theorem RepS.freeze {F H : Hp} {σ : L2.St} {st : Ml.St} {fp : Nat → List Addr} {i : Nat} {o : O} (r : RepS K T F H σ st fp) (sub : Same F H) (e : st[i]? = some (some o)) :
    Same F (frz F H (fp i)) ∧ Same (frz F H (fp i)) H ∧ RepS K T (frz F H (fp i)) H σ (st.set i (some (.fz o.d))) (upN fp i []) := by
  have s1 : Same F (frz F H (fp i)) := frz_same fun a ha => (r.dom i a ha).1
  refine ⟨s1, frz_le sub, ?_⟩
  obtain ⟨v, e1, q⟩ := r.at_ i o e
  refine r.upd s1 (fun j z => Stay.refl fun a ha => ?_) (by rw [List.length_set, r.len]) (fun j z => rfl) (fun j z => List.getElem?_set_ne (Ne.symm z)) (fun o' e' => ?_) (fun _ z => nomatch z) fun _ z => nomatch z
  · rw [frz_out fun y => z (r.dis j i a ha y)]
    exact (r.dom j a ha).1
  · rw [List.getElem?_set_self (List.getElem?_eq_some_iff.mp e).1] at e'
    cases e'
    exact ⟨v, e1, RepO.freeze s1 o v _ q fun a ha u hu => by rw [frz_in ha]; exact hu, rfl⟩

theorem After.refl {F H : Hp} {fp : List Addr} (h : Same F H) : After F H fp F H := ⟨Same.refl _, h, fun a o e _ => e, fun a o e n => by rw [n] at e; cases e⟩
theorem After.new {F H F' H' : Hp} {fp : List Addr} (x : After F H fp F' H') {a : Addr} (n : H' a = none) : a ∈ fp ∨ H a = none := by
  by_cases z : a ∈ fp
  · exact .inl z
  · cases e : H a with
    | none => exact .inr rfl
    | some o =>
      rw [x.keep a o e z] at n
      cases n
theorem After.trans {F H F1 H1 F2 H2 : Hp} {fp f1 : List Addr} (x : After F H fp F1 H1) (y : After F1 H1 f1 F2 H2) (own : ∀ a ∈ f1, a ∈ fp ∨ H a = none) : After F H fp F2 H2 := by
  refine ⟨x.ff.trans y.ff, y.fh, fun a o e n => ?_, fun a o e n => ?_⟩
  · refine y.keep a o (x.keep a o e n) fun z => ?_
    rcases own a z with q | q
    · exact n q
    · rw [q] at e; cases e
  · cases q : F1 a with
    | some u => exact x.nw a u q n
    | none =>
      rcases y.nw a o e q with z | z
      · exact own a z
      · exact x.new z
theorem After.ext_r {F H F1 H1 F2 H2 : Hp} {fp : List Addr} (x : After F H fp F1 H1) (y : Ext F1 H1 F2 H2) : After F H fp F2 H2 := x.trans (Ext.after (fp := []) y) fun _ z => nomatch z

/-- the def's frame behind some steps -/
structure Fr (K : PySem.W.Frag) (T : Tb) (refs : List Nat) (vs0 : List V) (F0 H0 : Hp) (fp0 : List Addr) (F H : Hp) (σ : L2.St) (st : Ml.St) (fp : Nat → List Addr) : Prop where
  aft : After F0 H0 fp0 F H
  rep : RepS K T F H σ st fp
  own : ∀ i a, a ∈ fp i → a ∈ fp0 ∨ H0 a = none
  ref : ∀ j ∈ refs, σ[j]? = some (some (vs0.getD j .non))
variable {refs : List Nat} {vs0 : List V} {F0 H0 F H F1 H1 : Hp} {fp0 : List Addr} {σ : L2.St} {st : Ml.St} {fp : Nat → List Addr} {i : Nat} {o : O} {v : V} {l : List Addr}
theorem Fr.sub (f : Fr K T refs vs0 F0 H0 fp0 F H σ st fp) : Same F H := f.aft.fh
theorem Fr.ext (f : Fr K T refs vs0 F0 H0 fp0 F H σ st fp) (x : Ext F H F1 H1) : Fr K T refs vs0 F0 H0 fp0 F1 H1 σ st fp := ⟨f.aft.ext_r x, f.rep.ext x, f.own, f.ref⟩
theorem upN_own {P : Addr → Prop} {fp : Nat → List Addr} (h : ∀ i a, a ∈ fp i → P a) (g : ∀ a ∈ l, P a) : ∀ j a, a ∈ upN fp i l j → P a := fun j a ha => by
  by_cases z : j = i
  · subst z; rw [upN_at] at ha; exact g a ha
  · rw [upN_ne z] at ha; exact h j a ha
/-- a new value is stored -/
theorem Fr.set (f : Fr K T refs vs0 F0 H0 fp0 F H σ st fp) (x : Ext F H F1 H1) (hr : i ∉ refs) (q : RepO K T F1 H1 o v l) (hn : ∀ a ∈ l, H a = none) : Fr K T refs vs0 F0 H0 fp0 F1 H1 (σ.set i (some v)) (st.set i (some o)) (upN fp i l) := by
  have g := f.ext x
  refine ⟨g.aft, g.rep.set q fun a ha j _ y => ?_, upN_own f.own fun a ha => f.aft.new (hn a ha), fun j hj => ?_⟩
  · obtain ⟨_, u, hu⟩ := f.rep.dom j a y
    rw [hn a ha] at hu
    cases hu
  · rw [List.getElem?_set_ne fun z => hr (by rw [z]; exact hj)]
    exact f.ref j hj
theorem Fr.drop (f : Fr K T refs vs0 F0 H0 fp0 F H σ st fp) : Fr K T refs vs0 F0 H0 fp0 F H σ (st.set i none) (upN fp i []) := ⟨f.aft, f.rep.drop, upN_own f.own fun _ z => (nomatch z), f.ref⟩
theorem Fr.freeze (f : Fr K T refs vs0 F0 H0 fp0 F H σ st fp) (e : st[i]? = some (some o)) : Fr K T refs vs0 F0 H0 fp0 (frz F H (fp i)) H σ (st.set i (some (.fz o.d))) (upN fp i []) := by
  obtain ⟨s1, s2, r⟩ := f.rep.freeze f.sub e
  refine ⟨f.aft.trans (f1 := fp i) ⟨s1, s2, fun a o e _ => e, fun a u e n => ?_⟩ fun a ha => f.own i a ha, r, upN_own f.own fun _ z => (nomatch z), f.ref⟩
  by_cases z : a ∈ fp i
  · exact .inl z
  · rw [frz_out z, n] at e
    cases e
/-- a value is taken for good -/
theorem RepR.frozen {r : Rv} {d : D} (x : Ext F H F1 H1) (e : r.toD = some d) (h : RepR K T H F1 H1 r v) : ∃ F2, Ext F H F2 H1 ∧ Same F1 F2 ∧ Rep K T F2 d v := by
  obtain ⟨ms, hr⟩ := one_R h
  obtain ⟨F2, x2, s2, q⟩ := RepRs.frozen x (ds := [d]) (by simp only [toDs]; rw [e]) hr
  obtain ⟨v', w, ev, q1, q2⟩ := q
  cases ev
  exact ⟨F2, x2, s2, q1⟩
theorem RepR.owned {r : Rv} (e : r.toO = some o) (h : RepR K T H F1 H1 r v) : ∃ l, RepO K T F1 H1 o v l ∧ ∀ a ∈ l, H a = none := by
  cases r with
  | my o' =>
    cases e
    exact h
  | vw o' =>
    cases o' with
    | fz d =>
      cases e
      obtain ⟨l, hl⟩ := h
      exact ⟨l, hl, fun a ha => by rw [hl.2] at ha; cases ha⟩
    | lst os => cases e
    | ins c ns os => cases e

/-! ### a list within what a slot holds -/
inductive PathV (H : Hp) : V → List Int → V → Prop where
  | nil {v : V} : PathV H v [] v
  | cons {a : Addr} {xs : List V} {k : Int} {ks : List Int} {j : Nat} {v w : V} : H a = some (.lst xs) → ixN xs.length k = some j → xs[j]? = some v → PathV H v ks w → PathV H (.ref a) (k :: ks) w
theorem RepOs.upd : ∀ {os : List O} {vs : List V} {fq : List Addr} {j : Nat} {o1 : O}, RepOs K T F H os vs fq → os[j]? = some o1 → ∃ v1 f1, vs[j]? = some v1 ∧ RepO K T F H o1 v1 f1 ∧ (∀ a ∈ f1, a ∈ fq) ∧
    ∀ {F' H' : Hp} {o' : O} {v' : V} {f' : List Addr}, Same F F' → Stay F' H H' (fq.filter fun a => !f1.contains a) → RepO K T F' H' o' v' f' → (∀ a ∈ f', a ∈ f1 ∨ a ∉ fq) →
      ∃ fq', RepOs K T F' H' (os.set j o') (vs.set j v') fq' ∧ ∀ a ∈ fq', a ∈ f' ∨ (a ∈ fq ∧ a ∉ f1)
  | [], _, _, _, _, _, h => by simp at h
  | o :: os, vs, fq, 0, o1, r, h => by
    obtain ⟨v, w, f1, f2, e, h1, h2, d, ef⟩ := r
    obtain rfl : o = o1 := by simpa using h
    subst e
    refine ⟨v, f1, rfl, h1, fun a ha => by rw [ef]; exact List.mem_append_left _ ha, fun {F' H' o' v' f'} s st q hd => ?_⟩
    have hsub : ∀ a ∈ f2, a ∈ fq.filter fun a => !f1.contains a := fun a ha => by
      rw [List.mem_filter, ef]
      refine ⟨List.mem_append_right _ ha, ?_⟩
      have : a ∉ f1 := fun z => d a z ha
      simpa using this
    refine ⟨f' ++ f2, ⟨v', w, f', f2, rfl, q, RepOs.mono s os w f2 h2 (st.sub hsub), fun a ha hb => ?_, rfl⟩, fun a ha => ?_⟩
    · rcases hd a ha with z | z
      · exact d a z hb
      · exact z (by rw [ef]; exact List.mem_append_right _ hb)
    · rcases List.mem_append.mp ha with z | z
      · exact .inl z
      · exact .inr ⟨by rw [ef]; exact List.mem_append_right _ z, fun y => d a y z⟩
  | o :: os, vs, fq, j + 1, o1, r, h => by
    obtain ⟨v, w, f1, f2, e, h1, h2, d, ef⟩ := r
    obtain ⟨v1, g1, e1, q1, sub1, step⟩ := RepOs.upd (j := j) h2 (by simpa using h)
    subst e
    refine ⟨v1, g1, by simpa using e1, q1, fun a ha => by rw [ef]; exact List.mem_append_right _ (sub1 a ha), fun {F' H' o' v' f'} s st q hd => ?_⟩
    have hsub : ∀ a ∈ f1, a ∈ fq.filter fun a => !g1.contains a := fun a ha => by
      rw [List.mem_filter, ef]
      refine ⟨List.mem_append_left _ ha, ?_⟩
      have : a ∉ g1 := fun z => d a ha (sub1 a z)
      simpa using this
    obtain ⟨fq', r', sub'⟩ := step s (st.sub fun a ha => by
      rw [List.mem_filter] at ha ⊢
      exact ⟨by rw [ef]; exact List.mem_append_right _ ha.1, ha.2⟩) q fun a ha => (hd a ha).imp_right fun z y => z (by rw [ef]; exact List.mem_append_right _ y)
    refine ⟨f1 ++ fq', ⟨v, w.set j v', f1, fq', rfl, RepO.mono s o v f1 h1 (st.sub hsub), r', fun a ha hb => ?_, rfl⟩, fun a ha => ?_⟩
    · rcases sub' a hb with z | z
      · rcases hd a z with y | y
        · exact d a ha (sub1 a y)
        · exact y (by rw [ef]; exact List.mem_append_left _ ha)
      · exact d a ha z.1
    · rcases List.mem_append.mp ha with z | z
      · exact .inr ⟨by rw [ef]; exact List.mem_append_left _ z, fun y => d a z (sub1 a y)⟩
      · exact (sub' a z).imp_right fun y => ⟨by rw [ef]; exact List.mem_append_right _ y.1, y.2⟩
theorem set_same {α : Type} {l : List α} {j : Nat} {x : α} (h : l[j]? = some x) : l.set j x = l := by
  apply List.ext_getElem?
  intro i
  by_cases z : j = i
  · subst z
    rw [List.getElem?_set_self (List.getElem?_eq_some_iff.mp h).1, h]
  · rw [List.getElem?_set_ne z]
/-- the list at a path: where it lies; what its writing does -/
theorem RepO.path : ∀ {ks : List Int} {o : O} {v : V} {fp : List Addr} {os : List O}, RepO K T F H o v fp → getP ks o = some (.lst os) → ∃ p xs fq, PathV H v ks (.ref p) ∧ H p = some (.lst xs) ∧ F p = none ∧ RepOs K T F H os xs fq ∧ p ∉ fq ∧ p ∈ fp ∧ (∀ a ∈ fq, a ∈ fp) ∧
    ∀ {os' : List O} {ys : List V} {fn : List Addr}, RepOs K T F H os' ys fn → p ∉ fn → (∀ a ∈ fn, a ∈ fq ∨ a ∉ fp) → ∃ fp', RepO K T F (upd H p (.lst ys)) (setP ks o (.lst os')) v fp' ∧ (∀ a ∈ fp', a ∈ fn ∨ (a ∈ fp ∧ a ∉ fq))
  | [], o, v, fp, os, r, h => by
    cases h
    obtain ⟨a, xs, fq, e, ha, hf, r, n, ef⟩ := r
    subst ef
    refine ⟨a, xs, fq, by rw [e]; exact .nil, ha, hf, r, n, List.mem_cons_self, fun b hb => List.mem_cons_of_mem _ hb, fun {os' ys fn} r' n' d => ?_⟩
    refine ⟨a :: fn, ⟨a, ys, fn, e, upd_same, hf, RepOs.mono (Same.refl _) os' ys fn r' ⟨fun b hb u hu => ?_, fun b hb => (RepOs.dom os' ys fn r' b hb).1⟩, n', rfl⟩, fun b hb => ?_⟩
    · rw [upd_ne fun z => n' (by rw [← z]; exact hb)]
      exact hu
    · rcases List.mem_cons.mp hb with z | z
      · subst z
        exact .inr ⟨List.mem_cons_self, n⟩
      · exact .inl z
  | k :: ks, o, v, fp, os, r, h => by
    match o, h, r with
    | .lst os0, h, r0 =>
      simp only [getP] at h
      split at h
      · rename_i j hj
        split at h
        · rename_i o1 h1
          obtain ⟨a, xs, fq0, e, ha, hf, rq, n, ef⟩ := r0
          subst ef
          obtain ⟨v1, f1, ev, q1, sub1, step⟩ := RepOs.upd rq h1
          obtain ⟨p, ys0, fq, pv, hp, hfp, rp, np, pin, fqin, w⟩ := RepO.path q1 h
          have pa : p ≠ a := fun z => n (by rw [← z]; exact sub1 p pin)
          refine ⟨p, ys0, fq, by rw [e]; exact .cons ha (by rw [RepOs.length rq]; exact hj) ev pv, hp, hfp, rp, np, List.mem_cons_of_mem _ (sub1 p pin), fun b hb => List.mem_cons_of_mem _ (sub1 b (fqin b hb)), fun {os' ys fn} r' n' d => ?_⟩
          obtain ⟨f1', q1', sub1'⟩ := w r' n' fun b hb => (d b hb).imp_right fun z y => z (List.mem_cons_of_mem _ (sub1 b y))
          obtain ⟨fq0', r0', sub0'⟩ := step (F' := F) (H' := upd H p (.lst ys)) (v' := v1) (Same.refl _) ⟨fun b hb u hu => by
              rw [List.mem_filter] at hb
              rw [upd_ne fun z => by rw [z] at hb; simp [pin] at hb]
              exact hu, fun b hb => (RepOs.dom _ _ _ rq b (List.mem_filter.mp hb).1).1⟩ q1' fun b hb => by
            rcases sub1' b hb with z | z
            · rcases d b z with y | y
              · exact .inl (fqin b y)
              · exact .inr fun x => y (List.mem_cons_of_mem _ x)
            · exact .inl z.1
          rw [set_same ev] at r0'
          have na : a ∉ fq0' := fun z => by
            rcases sub0' a z with y | y
            · rcases sub1' a y with x | x
              · rcases d a x with u | u
                · exact n (sub1 a (fqin a u))
                · exact u List.mem_cons_self
              · exact n (sub1 a x.1)
            · exact n y.1
          have es : setP (k :: ks) (.lst os0) (.lst os') = .lst (os0.set j (setP ks o1 (.lst os'))) := by simp only [setP, hj, h1]
          rw [es]
          refine ⟨a :: fq0', ⟨a, xs, fq0', e, by rw [upd_ne (Ne.symm pa)]; exact ha, hf, r0', na, rfl⟩, fun b hb => ?_⟩
          · rcases List.mem_cons.mp hb with z | z
            · subst z
              exact .inr ⟨List.mem_cons_self, fun y => n (sub1 b (fqin b y))⟩
            · rcases sub0' b z with y | y
              · exact (sub1' b y).imp_right fun x => ⟨List.mem_cons_of_mem _ (sub1 b x.1), x.2⟩
              · exact .inr ⟨List.mem_cons_of_mem _ y.1, fun x => y.2 (fqin b x)⟩
        · cases h
      · cases h
    | .fz _, h, _ => cases h
    | .ins _ _ _, h, _ => cases h
end
end Ml

set_option Elab.async false
set_option linter.all false
set_option maxRecDepth 100000
set_option maxHeartbeats 4000000
/-! M12: one lemma a statement's form. -/
namespace Ml
open PySem PySem.Spec PyProof.Rows L2
/-- what a def's body leans on beyond its expressions -/
structure Cs (T : Tb) (M : Gm) (G : Gl) (lim k : Nat) (N : List Str) (sc : Scope) (W : XK) (X : Cx) : Prop extends Cap T M G lim k N sc W X where
  env : X.env.scope = sc
  kind : sc.kind = .function
  own : PassesOwn (model X.prog X.w) X.A X.env X.xe
/-- where a def's frame began -/
structure Fz where
  refs : List Nat
  vs : List V
  F : Hp
  H : Hp
  fp : List Addr
abbrev FrZ (K : PySem.W.Frag) (T : Tb) (Z : Fz) (F H : Hp) (σ : L2.St) (st : Ml.St) (fp : Nat → List Addr) : Prop := Fr K T Z.refs Z.vs Z.F Z.H Z.fp F H σ st fp
def ExcA (K : PySem.W.Frag) (T : Tb) (W : XK) (Z : Fz) (x : Nat) (ds : List D) : Prop :=
  ∀ F' H' d fs, After Z.F Z.H Z.fp F' H' → H' d = some (.xd fs) → fs.map (·.1) = T.xn x → Reps K T F' ds (fs.map (·.2)) → W (.ref (T.cls x)) (some d) H'
/-- what is left of an answer is nobody's -/
def Alone (Z : Fz) (fp : Nat → List Addr) (l : List Addr) : Prop := ∀ a ∈ l, (∀ i, a ∉ fp i) ∧ (a ∈ Z.fp ∨ Z.H a = none)
def outS (K : PySem.W.Frag) (T : Tb) (W : XK) (Z : Fz) (F : Hp) (r : Out) (D : Ends) : Prop := match r with
  | .nx st => ∀ F' H' σ fp, Same F F' → FrZ K T Z F' H' σ st fp → D.nx σ H'
  | .brk st => ∀ F' H' σ fp, Same F F' → FrZ K T Z F' H' σ st fp → D.bk σ H'
  | .cnt st => ∀ F' H' σ fp, Same F F' → FrZ K T Z F' H' σ st fp → D.ct σ H'
  | .ret o st => ∀ F' H' σ fp v l, Same F F' → FrZ K T Z F' H' σ st fp → RepO K T F' H' o v l → Alone Z fp l → D.rt v H'
  | .exc x ds => ExcA K T W Z x ds
  | .bad => False
def tS (K : PySem.W.Frag) (T : Tb) (W : XK) (G : Gl) (Z : Fz) (s : S) : TS := fun D σ H => ∃ F st fp, FrZ K T Z F H σ st fp ∧ outS K T W Z F (exec G s st) D
def tSs (K : PySem.W.Frag) (T : Tb) (W : XK) (G : Gl) (Z : Fz) (s : List S) : TS := fun D σ H => ∃ F st fp, FrZ K T Z F H σ st fp ∧ outS K T W Z F (execs G s st) D
theorem PS_imp {X : Cx} {e : Stmt} {t t' : TS} (h : PS X e t) (i : ∀ D σ H, t' D σ H → t D σ H) : PS X e t' := ⟨fun pins s σ H D I q => h.run pins s σ H D I (i _ _ _ q)⟩
theorem PSs_imp {X : Cx} {e : List Stmt} {t t' : TS} (h : PSs X e t) (i : ∀ D σ H, t' D σ H → t D σ H) : PSs X e t' := ⟨fun pins s σ H D I q => h.run pins s σ H D I (i _ _ _ q)⟩
section
variable {T : Tb} {M : Gm} {G : Gl} {lim k : Nat} {N : List Str} {sc : Scope} {W : XK} {X : Cx} {Z : Fz} {a b : E} {x y e : Expr} {pos : Pos} {K : PySem.W.Frag}
theorem outS.mono {F F1 : Hp} {r : Out} {D : Ends} (s : Same F F1) (h : outS K T W Z F r D) : outS K T W Z F1 r D := by
  cases r with
  | nx st => exact fun F' H' σ fp q => h F' H' σ fp (s.trans q)
  | brk st => exact fun F' H' σ fp q => h F' H' σ fp (s.trans q)
  | cnt st => exact fun F' H' σ fp q => h F' H' σ fp (s.trans q)
  | ret o st => exact fun F' H' σ fp v l q => h F' H' σ fp v l (s.trans q)
  | exc x ds => exact h
  | bad => exact h
theorem excA_W {F H : Hp} {σ : L2.St} {st : Ml.St} {fp : Nat → List Addr} {c : Nat} {ds : List D} (f : FrZ K T Z F H σ st fp) (h : ExcA K T W Z c ds) : ExcW K T W F H c ds := fun F' H' d fs x => h F' H' d fs (f.aft.ext_r x)
theorem then_ES {F H : Hp} {σ : L2.St} {st : Ml.St} {fp : Nat → List Addr} {c : E} {g : Rv → Out} {D : Ends} {Q : VK} (f : FrZ K T Z F H σ st fp) (h : outS K T W Z F ((ev G c st).out g) D)
    (go : ∀ r v F1 H1, Ext F H F1 H1 → RepR K T H F1 H1 r v → outS K T W Z F (g r) D → Q v H1) : tE K T W G c σ H Q := by
  refine ⟨F, st, f.sub, f.rep.srel, ?_⟩
  cases q : ev G c st with
  | ok r =>
    rw [q] at h
    exact fun v F1 H1 x rr => go r v F1 H1 x rr h
  | exc x ds =>
    rw [q] at h
    exact excA_W f h
  | bad =>
    rw [q] at h
    exact h
theorem then_TS {F H : Hp} {σ : L2.St} {st : Ml.St} {fp : Nat → List Addr} {c : Te} {g : Bool → Out} {D : Ends} {Q : Bool → Hp → Prop} (f : FrZ K T Z F H σ st fp) (h : outS K T W Z F ((et G c st).out g) D)
    (go : ∀ r F1 H1, Ext F H F1 H1 → outS K T W Z F (g r) D → Q r H1) : tT K T W G c σ H Q := by
  refine ⟨F, st, f.sub, f.rep.srel, ?_⟩
  cases q : et G c st with
  | ok r =>
    rw [q] at h
    exact fun F1 H1 x => go r F1 H1 x h
  | exc x ds =>
    rw [q] at h
    exact excA_W f h
  | bad =>
    rw [q] at h
    exact h
theorem then_EsS {F H : Hp} {σ : L2.St} {st : Ml.St} {fp : Nat → List Addr} {cs : List E} {g : List Rv → Out} {D : Ends} {Q : List V → Hp → Prop} (f : FrZ K T Z F H σ st fp) (h : outS K T W Z F ((evs G cs st).out g) D)
    (go : ∀ rs vs F1 H1 ms, Ext F H F1 H1 → RepRs K T H F1 H1 rs vs ms → outS K T W Z F (g rs) D → Q vs H1) : tEs K T W G cs σ H Q := by
  refine ⟨F, st, f.sub, f.rep.srel, ?_⟩
  cases q : evs G cs st with
  | ok r =>
    rw [q] at h
    exact fun v F1 H1 ms x rr => go r v F1 H1 ms x rr h
  | exc x ds =>
    rw [q] at h
    exact excA_W f h
  | bad =>
    rw [q] at h
    exact h
theorem outS_opt {α : Type} {F : Hp} {o : Option α} {g : α → Out} {D : Ends} (h : outS K T W Z F (opt o g) D) : ∃ u, o = some u ∧ outS K T W Z F (g u) D := by
  cases o with
  | none => exact h.elim
  | some u => exact ⟨u, rfl, h⟩
/-- a new value is nobody's -/
theorem alone_new {F H F1 H1 : Hp} {σ : L2.St} {st : Ml.St} {fp : Nat → List Addr} {l : List Addr} (f : FrZ K T Z F H σ st fp) (hn : ∀ a ∈ l, H a = none) : Alone Z fp l := fun a ha => by
  refine ⟨fun i z => ?_, f.aft.new (hn a ha)⟩
  obtain ⟨_, u, hu⟩ := f.rep.dom i a z
  rw [hn a ha] at hu
  cases hu

/-! ### return -/
theorem RepO.fz_nil {F H : Hp} {d : D} {v : V} {l : List Addr} (h : RepO K T F H (.fz d) v l) : l = [] := h.2
theorem s_ret (c : Cap T M G lim k N sc W X) (ha : PE X e (tE X.K T W G a)) (hv : ∀ i, a ≠ .v i) : PS X (.Return (some e) pos) (tS X.K T W G Z (.ret a)) := by
  refine PS_imp (ps_ret ha) fun D σ H h => ?_
  obtain ⟨F, st, fp, f, g⟩ := h
  simp only [exec] at g
  refine then_ES f g fun r v F1 H1 x1 rr g1 => ?_
  cases r with
  | my o =>
    obtain ⟨l, h1, h2⟩ := rr
    exact g1 F1 H1 σ fp v l x1.ff (f.ext x1) h1 (alone_new (F1 := F1) (H1 := H1) f h2)
  | vw o =>
    cases o with
    | fz d =>
      obtain ⟨l, h1⟩ := rr
      obtain rfl := RepO.fz_nil h1
      exact g1 F1 H1 σ fp v [] x1.ff (f.ext x1) h1 fun _ z => nomatch z
    | lst os =>
      cases a <;> first | exact absurd rfl (hv _) | exact g1.elim
    | ins _ _ _ =>
      cases a <;> first | exact absurd rfl (hv _) | exact g1.elim
theorem s_retV (c : Cap T M G lim k N sc W X) {i : Nat} {n : Str} {p : Pos} (h1 : N[i]? = some n) (h2 : locB sc n = true) (h3 : (!dbg n) = true) : PS X (.Return (some (.Name n p)) pos) (tS X.K T W G Z (.ret (.v i))) := by
  refine PS_imp (ps_ret (pe_var (i := i) (by rw [c.hN]; exact h1) (c.loc n h2) (dbg_of h3).1 (dbg_of h3).2)) fun D σ H h => ?_
  obtain ⟨F, st, fp, f, g⟩ := h
  simp only [exec, ev] at g
  cases ei : st[i]? with
  | none => simp only [ei] at g; exact g.elim
  | some oo =>
    cases oo with
    | none => simp only [ei] at g; exact g.elim
    | some o =>
      simp only [ei, Rs.out] at g
      obtain ⟨v, e1, q⟩ := f.rep.at_ i o ei
      refine ⟨v, e1, ?_⟩
      have big : outS X.K T W Z F (.ret o (st.set i none)) D → D.rt v H := fun g => g F H σ _ v (fp i) (Same.refl _) f.drop q fun a ha => ⟨fun j z => by
        by_cases y : j = i
        · subst y; rw [upN_at] at z; cases z
        · rw [upN_ne y] at z; exact y (f.rep.dis j i a z ha), f.own i a ha⟩
      cases o with
      | fz d =>
        have hl := RepO.fz_nil q
        exact g F H σ fp v (fp i) (Same.refl _) f q fun a ha => by rw [hl] at ha; cases ha
      | lst os => exact big g
      | ins c ns os => exact big g
theorem s_retN : PS X (.Return none pos) (tS K T W G Z .retN) := PS_imp ps_retN fun D σ H ⟨F, st, fp, f, g⟩ => g F H σ fp .non [] (Same.refl _) f ⟨rfl, rfl⟩ fun _ z => nomatch z
theorem s_pass : PS X (.Pass pos) (tS K T W G Z .pass) := PS_imp ps_pass fun D σ H ⟨F, st, fp, f, g⟩ => g F H σ fp (Same.refl _) f
theorem s_brk : PS X (.Break pos) (tS K T W G Z .brk) := PS_imp ps_break fun D σ H ⟨F, st, fp, f, g⟩ => g F H σ fp (Same.refl _) f
theorem s_cnt : PS X (.Continue pos) (tS K T W G Z .cnt) := PS_imp ps_continue fun D σ H ⟨F, st, fp, f, g⟩ => g F H σ fp (Same.refl _) f
theorem swaps_no {t : Option Expr} {l : Nat} {env : Env} (h : notLc e = true) : swapsWith e t l env = pure false := by
  cases e <;> first | rfl | cases h
theorem s_expr (ha : PE X e (tE X.K T W G a)) (hs : notLc e = true) : PS X (.Expr e pos) (tS X.K T W G Z (.expr a)) := by
  refine PS_imp (ps_expr ha (swaps_no hs)) fun D σ H h => ?_
  obtain ⟨F, st, fp, f, g⟩ := h
  simp only [exec] at g
  exact then_ES f g fun r v F1 H1 x1 rr g1 => g1 F1 H1 σ fp x1.ff (f.ext x1)
theorem s_ite {c : Te} {ba bb : List S} {sa sb : List Stmt} (hc : PT X e (tT X.K T W G c)) (ha : PSs X sa (tSs X.K T W G Z ba)) (hb : PSs X sb (tSs X.K T W G Z bb)) : PS X (.If e sa sb pos) (tS X.K T W G Z (.ite c ba bb)) := by
  refine PS_imp (ps_if hc ha hb) fun D σ H h => ?_
  obtain ⟨F, st, fp, f, g⟩ := h
  simp only [exec] at g
  refine then_TS f g fun r F1 H1 x1 g1 => ?_
  cases r with
  | true => exact ⟨F1, st, fp, f.ext x1, g1.mono x1.ff⟩
  | false => exact ⟨F1, st, fp, f.ext x1, g1.mono x1.ff⟩
theorem ss_nil : PSs X [] (tSs K T W G Z []) := PSs_imp pss_nil fun D σ H ⟨F, st, fp, f, g⟩ => g F H σ fp (Same.refl _) f
theorem ss_cons {s : S} {r : List S} {st : Stmt} {sts : List Stmt} (h1 : PS X st (tS K T W G Z s)) (h2 : PSs X sts (tSs K T W G Z r)) : PSs X (st :: sts) (tSs K T W G Z (s :: r)) := by
  refine PSs_imp (pss_cons h1 h2) fun D σ H h => ?_
  obtain ⟨F, st, fp, f, g⟩ := h
  refine ⟨F, st, fp, f, ?_⟩
  simp only [execs] at g
  cases q : exec G s st with
  | nx st' =>
    rw [q] at g
    exact fun F' H' σ' fp' s' f' => ⟨F', st', fp', f', g.mono s'⟩
  | ret o st' => rw [q] at g; exact g
  | brk st' => rw [q] at g; exact g
  | cnt st' => rw [q] at g; exact g
  | exc c ds => rw [q] at g; exact g
  | bad => rw [q] at g; exact g
theorem ss_frz {i : Nat} {r : List S} {sts : List Stmt} (h2 : PSs X sts (tSs K T W G Z r)) : PSs X sts (tSs K T W G Z (.frz i :: r)) := by
  refine PSs_imp h2 fun D σ H h => ?_
  obtain ⟨F, st, fp, f, g⟩ := h
  simp only [execs, exec] at g
  split at g
  · rename_i o e
    have f' := f.freeze e
    exact ⟨_, _, _, f', outS.mono (frz_same fun a ha => (f.rep.dom i a ha).1) g⟩
  · exact g.elim

/-! ### a name, names -/
/-- the slots is take what is frozen -/
theorem Fr.tp {F H : Hp} {σ σ' : L2.St} {st st' : Ml.St} {fp : Nat → List Addr} {is : List Nat} (f : FrZ K T Z F H σ st fp) (rel : SRel K T F H σ' st') (up : Upto is σ σ') (hst : ∀ j, j ∉ is → st'[j]? = st[j]?)
    (hfz : ∀ j ∈ is, ∀ o, st'[j]? = some (some o) → ∃ d, o = .fz d) (hr : ∀ j ∈ is, j ∉ Z.refs) : FrZ K T Z F H σ' st' (fun j => if j ∈ is then [] else fp j) := by
  refine ⟨f.aft, ⟨rel.len, fun i o e => ?_, fun i j a h1 h2 => ?_, fun i a h => ?_⟩, fun i a h => ?_, fun j hj => ?_⟩
  · by_cases z : i ∈ is
    · rw [if_pos z]
      obtain ⟨d, rfl⟩ := hfz i z o e
      obtain ⟨v, e1, l, q⟩ := rel.at_ i _ e
      obtain rfl := RepO.fz_nil q
      exact ⟨v, e1, q⟩
    · rw [if_neg z, up.at_ i z]
      rw [hst i z] at e
      exact f.rep.at_ i o e
  · by_cases z : i ∈ is
    · rw [if_pos z] at h1; cases h1
    · by_cases y : j ∈ is
      · rw [if_pos y] at h2; cases h2
      · rw [if_neg z] at h1
        rw [if_neg y] at h2
        exact f.rep.dis i j a h1 h2
  · by_cases z : i ∈ is
    · rw [if_pos z] at h; cases h
    · rw [if_neg z] at h
      exact f.rep.dom i a h
  · by_cases z : i ∈ is
    · rw [if_pos z] at h; cases h
    · rw [if_neg z] at h
      exact f.own i a h
  · rw [up.at_ j fun z => hr j z hj]
    exact f.ref j hj
mutual
theorem bindT_fz : ∀ (t : Tg) (d : D) (st st' : Ml.St), bindT t (.fz d) st = some st' → (∀ j, j ∉ t.slots → st'[j]? = st[j]?) ∧ ∀ j ∈ t.slots, ∀ o, st'[j]? = some (some o) → ∃ d, o = .fz d
  | .nm i, d, st, st', h => by
    cases h
    refine ⟨fun j hj => List.getElem?_set_ne fun z => hj (by rw [z]; exact List.mem_cons_self), fun j hj o e => ?_⟩
    obtain rfl : j = i := by simpa [Tg.slots] using hj
    by_cases hl : j < st.length
    · rw [List.getElem?_set_self hl] at e
      cases e
      exact ⟨d, rfl⟩
    · rw [List.getElem?_eq_none (by rw [List.length_set]; omega)] at e
      cases e
  | .tp ts, d, st, st', h => by
    simp only [bindT] at h
    split at h
    · exact bindTs_fz ts _ st st' h
    · cases h
theorem bindTs_fz : ∀ (ts : List Tg) (ds : List D) (st st' : Ml.St), bindTs ts ds st = some st' → (∀ j, j ∉ Tg.slotss ts → st'[j]? = st[j]?) ∧ ∀ j ∈ Tg.slotss ts, ∀ o, st'[j]? = some (some o) → ∃ d, o = .fz d
  | [], ds, st, st', h => by
    cases ds with
    | nil => cases h; exact ⟨fun _ _ => rfl, fun _ z => nomatch z⟩
    | cons _ _ => cases h
  | t :: ts, ds, st, st', h => by
    cases ds with
    | nil => cases h
    | cons d ds =>
      simp only [bindTs] at h
      split at h
      · rename_i st1 h1
        obtain ⟨a1, a2⟩ := bindT_fz t d st st1 h1
        obtain ⟨b1, b2⟩ := bindTs_fz ts ds st1 st' h
        refine ⟨fun j hj => ?_, fun j hj o e => ?_⟩
        · rw [b1 j fun z => hj (List.mem_append_right _ z), a1 j fun z => hj (List.mem_append_left _ z)]
        · by_cases z : j ∈ Tg.slotss ts
          · exact b2 j z o e
          · rw [b1 j z] at e
            exact a2 j ((List.mem_append.mp hj).resolve_right z) o e
      · cases h
end
theorem bind_fzO : ∀ {t : Tg} {o : O} {st st' : Ml.St}, (∀ i, t ≠ .nm i) → bindT t o st = some st' → ∃ d, o = .fz d
  | .nm i, _, _, _, h, _ => absurd rfl (h i)
  | .tp ts, o, st, st', _, h => by
    simp only [bindT] at h
    split at h
    · rename_i ds hd
      match o, hd with
      | .fz d, _ => exact ⟨d, rfl⟩
    · cases h
/-- the value that an assignment stores -/
theorem asg_val {F H F1 H1 : Hp} {fr : Bool} {r : Rv} {o : O} {v : V} (x1 : Ext F H F1 H1) (rr : RepR K T H F1 H1 r v) (e : (if fr then r.toD.map .fz else r.toO) = some o) : ∃ F2 l, Ext F H F2 H1 ∧ RepO K T F2 H1 o v l ∧ ∀ a ∈ l, H a = none := by
  cases fr with
  | true =>
    rw [if_pos rfl] at e
    cases hd : r.toD with
    | none => rw [hd] at e; cases e
    | some d =>
      rw [hd] at e
      cases e
      obtain ⟨F2, x2, _, q⟩ := RepR.frozen x1 hd rr
      exact ⟨F2, [], x2, ⟨q, rfl⟩, fun _ z => nomatch z⟩
  | false =>
    rw [if_neg Bool.false_ne_true] at e
    obtain ⟨l, q, hn⟩ := RepR.owned e rr
    exact ⟨F1, l, x1, q, hn⟩
theorem s_asgN {fr : Bool} {i : Nat} {n : Str} {py : Pos} (hr : i ∉ Z.refs) (h : PS X (.Assign [.Name n py] e pos) (tAsg (tE X.K T W G a) (gName i))) : PS X (.Assign [.Name n py] e pos) (tS X.K T W G Z (.asg fr (.nm i) a)) := by
  refine PS_imp h fun D σ H h => ?_
  obtain ⟨F, st, fp, f, g⟩ := h
  simp only [exec] at g
  refine then_ES f g fun r v F1 H1 x1 rr g1 => ?_
  obtain ⟨o, ho, g2⟩ := outS_opt g1
  obtain ⟨F2, l, x2, q, hn⟩ := asg_val x1 rr ho
  exact g2 F2 H1 _ _ x2.ff (f.set x2 hr q hn)
theorem s_asgT {fr : Bool} {t : Tg} (ht : ∀ i, t ≠ .nm i) (hr : ∀ j ∈ t.slots, j ∉ Z.refs) (h : PS X (.Assign [x] e pos) (tAsg (tE X.K T W G a) (tTg X.K T t))) : PS X (.Assign [x] e pos) (tS X.K T W G Z (.asg fr t a)) := by
  refine PS_imp h fun D σ H h => ?_
  obtain ⟨F, st, fp, f, g⟩ := h
  simp only [exec] at g
  refine then_ES f g fun r v F1 H1 x1 rr g1 => ?_
  obtain ⟨o, ho, g2⟩ := outS_opt g1
  obtain ⟨st', hb, g3⟩ := outS_opt g2
  obtain ⟨F2, l, x2, q, hn⟩ := asg_val x1 rr ho
  obtain ⟨d, rfl⟩ := bind_fzO ht hb
  have f2 := f.ext x2
  obtain ⟨b1, b2⟩ := bindT_fz t d st st' hb
  exact ⟨F2, .fz d, st, st', x2.fh, f2.rep.srel, ⟨l, q⟩, hb, fun σ' rel up => g3 F2 H1 σ' _ x2.ff (f2.tp rel up b1 b2 hr)⟩

/-! ### loops -/
/-- the walk of what is frozen -/
def tID (K : PySem.W.Frag) (T : Tb) (W : XK) (G : Gl) (n : Nat) (cs : List E) : TI := fun σ H R => ∃ F st, Same F H ∧ SRel K T F H σ st ∧ outE K T W F H (evs G cs st) fun rs => ∃ ds os, toDs rs = some ds ∧ walkO n (ds.map .fz) = some os ∧
  ∀ F2 H1, Ext F H F2 H1 → ∀ J, Walks K T F2 F2 os J → R J H1
theorem toDs_one {r : Rv} {ds : List D} (h : toDs [r] = some ds) : ∃ d, r.toD = some d ∧ ds = [d] := by
  simp only [toDs] at h
  split at h
  · rename_i o os e1 e2
    cases e2
    cases h
    exact ⟨o, e1, rfl⟩
  · cases h
theorem id_any {tg : Expr} (ha : PE X x (tE X.K T W G a)) : PI X tg x (tID X.K T W G 0 [a]) := by
  refine PI_imp (pi_any ha) fun σ H R h => ?_
  obtain ⟨F, st, sub, rel, g⟩ := h
  refine one_E sub rel g fun r v F1 H1 x1 r1 g1 => ?_
  obtain ⟨ds, os, hd, hw, q⟩ := g1
  obtain ⟨d, hd', rfl⟩ := toDs_one hd
  obtain ⟨F2, x2, _, rd⟩ := RepR.frozen x1 hd' r1
  have q' := q F2 H1 x2
  have see : See X.K T F2 F2 (.fz d) v := ⟨[], rd, rfl⟩
  simp only [List.map_cons, List.map_nil, walkO] at hw
  split at hw
  · rename_i z hz
    cases hw
    exact .inr (.inr ⟨z, str_of see hz, q' _ walks_str⟩)
  · obtain ⟨p, xs, fp, e1, hq, ro⟩ := items_of (Same.refl _) see hw
    rcases hq with hq | hq
    · exact .inl ⟨p, xs, e1, x2.fh.seq hq, q' _ (walks_list hq ro)⟩
    · exact .inr (.inl ⟨p, xs, e1, sqt_mono x2.fh hq, q' _ (walks_tup hq ro)⟩)
theorem int_toD {r : Rv} {d : D} {i : Int} (h : r.toD = some d) (hi : int? (.fz d) = some i) : int? r.o = some i := by
  cases r with
  | my o =>
    cases h
    match o, hi with
    | .fz (.int j), hi => exact hi
  | vw o =>
    match o, h with
    | .fz d', h => cases h; exact hi
theorem id_range1 (c : Cap T M G lim k N sc W X) {tg : Expr} {n : Str} {p : Pos} (hn : n = "range") (h1 : gloB sc n = true) (h2 : M.free.contains n = true) (hz : notStar x = true) (ha : PA X [x] (tEs X.K T W G [a])) : PI X tg (.Call (.Name n p) [x] [] pos) (tID X.K T W G 1 [a]) := by
  subst hn
  refine PI_imp (pi_range1 (c.glo _ h1) (c.free _ h2) ha (by rw [starEach_c hz]; rfl)) fun σ H R h => ?_
  obtain ⟨F, st, sub, rel, g⟩ := h
  refine ⟨F, st, sub, rel, ?_⟩
  cases e : evs G [a] st with
  | bad => rw [e] at g; exact g
  | exc y ds => rw [e] at g; exact g
  | ok rs =>
    rw [e] at g
    obtain ⟨ds, os, hd, hw, q⟩ := g
    intro vs F1 H1 ms x1 rr
    have q' := q F1 H1 x1
    have ss := rr.sees
    have el := evs_length e
    match rs, el, ss, hd with
    | [r], _, ⟨v, w, ev, s, es⟩, hd =>
      obtain ⟨d, hd', rfl⟩ := toDs_one hd
      simp only [List.map_cons, List.map_nil, walkO] at hw
      split at hw
      · rename_i j hj
        split at hw
        · rename_i hb
          cases hw
          refine ⟨j, by rw [ev, int_of s (int_toD hd' hj), show w = _ from es], hb.1, hb.2, ?_⟩
          have e0 : (j - 0).toNat = j.toNat := by rw [Int.sub_zero]
          have := q' (Itr 0 (j - 0).toNat) walks_range
          rw [e0] at this
          exact this
        · cases hw
      · cases hw
theorem toDs_two {r s : Rv} {ds : List D} (h : toDs [r, s] = some ds) : ∃ d d', r.toD = some d ∧ s.toD = some d' ∧ ds = [d, d'] := by
  unfold toDs at h
  split at h
  · rename_i o os e1 e2
    obtain ⟨d', e3, rfl⟩ := toDs_one e2
    cases h
    exact ⟨o, d', e1, e3, rfl⟩
  · cases h
theorem id_range2 (c : Cap T M G lim k N sc W X) {tg : Expr} {n : Str} {p : Pos} (hn : n = "range") (h1 : gloB sc n = true) (h2 : M.free.contains n = true) (hz : notStar x = true) (hz2 : notStar y = true) (ha : PA X [x, y] (tEs X.K T W G [a, b])) :
    PI X tg (.Call (.Name n p) [x, y] [] pos) (tID X.K T W G 2 [a, b]) := by
  subst hn
  refine PI_imp (pi_range2 (c.glo _ h1) (c.free _ h2) ha (by rw [starEach_c hz, starEach_c hz2]; rfl) (by rw [starEach_c hz2]; rfl)) fun σ H R h => ?_
  obtain ⟨F, st, sub, rel, g⟩ := h
  refine ⟨F, st, sub, rel, ?_⟩
  cases e : evs G [a, b] st with
  | bad => rw [e] at g; exact g
  | exc y ds => rw [e] at g; exact g
  | ok rs =>
    rw [e] at g
    obtain ⟨ds, os, hd, hw, q⟩ := g
    intro vs F1 H1 ms x1 rr
    have q' := q F1 H1 x1
    have ss := rr.sees
    have el := evs_length e
    match rs, el, ss, hd with
    | [r, r'], _, ⟨v, w, ev, s, v', w', ev', s', es⟩, hd =>
      obtain ⟨d, d', hd1, hd2, rfl⟩ := toDs_two hd
      simp only [List.map_cons, List.map_nil, walkO] at hw
      split at hw
      · rename_i i j hi hj
        split at hw
        · rename_i hb
          cases hw
          exact ⟨i, j, by rw [ev, ev', int_of s (int_toD hd1 hi), int_of s' (int_toD hd2 hj), show w' = _ from es], hb, q' _ walks_range⟩
        · cases hw
      · cases hw
/-- the walk of what is frozen gives what is frozen -/
theorem walk_fz {n : Nat} {ds : List D} {os : List O} (h : walkO n (ds.map .fz) = some os) : ∀ o ∈ os, ∃ d, o = .fz d := by
  have it : ∀ {d : D} {os : List O}, items? (.fz d) = some os → ∀ o ∈ os, ∃ d, o = .fz d := by
    intro d os h o ho
    cases d <;> first | (cases h; done) | skip
    all_goals
      cases h
      obtain ⟨d, _, rfl⟩ := List.mem_map.mp ho
      exact ⟨d, rfl⟩
  have rg : ∀ {i j : Int}, ∀ o ∈ rangeOf i j, ∃ d, o = O.fz d := by
    intro i j o ho
    obtain ⟨d, _, rfl⟩ := List.mem_map.mp ho
    exact ⟨_, rfl⟩
  intro o ho
  match n, ds, h with
  | 0, [d], h =>
    simp only [List.map_cons, List.map_nil, walkO] at h
    split at h
    · cases h
      obtain ⟨d, _, rfl⟩ := List.mem_map.mp ho
      exact ⟨_, rfl⟩
    · exact it h o ho
  | 1, [d], h =>
    simp only [List.map_cons, List.map_nil, walkO] at h
    split at h
    · split at h
      · cases h; exact rg o ho
      · cases h
    · cases h
  | 2, [d, d'], h =>
    simp only [List.map_cons, List.map_nil, walkO] at h
    split at h
    · split at h
      · cases h; exact rg o ho
      · cases h
    · cases h
  | 3, [d], h =>
    simp only [List.map_cons, List.map_nil, walkO] at h
    split at h
    · cases h
      obtain ⟨d, _, rfl⟩ := List.mem_map.mp ho
      exact ⟨_, rfl⟩
    · cases h
  | 4, [d, d'], h =>
    simp only [List.map_cons, List.map_nil, walkO] at h
    split at h
    · cases h
      obtain ⟨d, _, rfl⟩ := List.mem_map.mp ho
      exact ⟨_, rfl⟩
    · cases h
theorem s_for (c : Cs T M G lim k N sc W X) {t : Tg} {n : Nat} {src : List E} {b : List S} {tg it : Expr} {body : List Stmt} (hs : notSet it = true) (hr : ∀ j ∈ t.slots, j ∉ Z.refs) (hi : PI X tg it (tID X.K T W G n src)) (hg : PG X tg (tTg X.K T t)) (hb : PSs X body (tSs X.K T W G Z b)) :
    PS X (.For tg it body [] pos) (tS X.K T W G Z (.for_ t n src b)) := by
  have hfs : ∀ z, foldedSetIterable it X.env z = pure z := by
    intro z
    cases it <;> first | rfl | cases hs
  refine PS_imp (ps_for c.own c.calm hi hg hb hfs) fun D σ H h => ?_
  obtain ⟨F, st, fp, f, g⟩ := h
  refine ⟨F, st, f.sub, f.rep.srel, ?_⟩
  simp only [exec] at g
  cases e0 : evs G src st with
  | bad => rw [e0] at g; exact g
  | exc y ds => rw [e0] at g; exact excA_W f g
  | ok rs =>
    rw [e0] at g
    obtain ⟨ds, hd, g⟩ := outS_opt g
    obtain ⟨os, hw, g⟩ := outS_opt g
    refine ⟨ds, os, hd, hw, fun F2 H1 x2 J wk => ?_⟩
    obtain ⟨bf, hbf⟩ : ∃ bf, bf = (fun (d : Ml.D) (st : Ml.St) => opt (bindT t (.fz d) st) fun st => execs G b st) := ⟨_, rfl⟩
    have g : outS X.K T W Z F2 (forL bf (O.ds os) st) D := by rw [hbf]; exact g.mono x2.ff
    have hlen : (O.ds os).length = os.length := by rw [O.ds_map, List.length_map]
    refine ⟨fun i m σ' H' => m = os.length - i ∧ i ≤ os.length ∧ ∃ F' st' fp', Same F2 F' ∧ FrZ X.K T Z F' H' σ' st' fp' ∧ outS X.K T W Z F' (forL bf ((O.ds os).drop i) st') D,
      ⟨os.length, by simp, Nat.zero_le _, F2, st, fp, Same.refl _, f.ext x2, g⟩, ?_⟩
    rintro i m σ' H' ⟨rfl, hi, F', st', fp', s2, f', g'⟩
    have xx : Ext F2 F2 F' H' := ⟨s2, s2.trans f'.sub, f'.sub, fun a o _ n => n⟩
    obtain ⟨w1, w2, w3⟩ := wk F' H' xx
    by_cases hlt : i < os.length
    · refine .inr ⟨w1 i hlt, fun σ'' H'' => ∃ F'' st'' fp'', Same F2 F'' ∧ FrZ X.K T Z F'' H'' σ'' st'' fp'' ∧ outS X.K T W Z F'' (forL bf ((O.ds os).drop (i + 1)) st'') D,
        fun σ'' H'' q => ⟨os.length - (i + 1), by omega, rfl, hlt, q⟩, fun v H'' hy => ?_⟩
      have ho : os[i]? = some os[i] := List.getElem?_eq_getElem hlt
      obtain ⟨F3, x3, see⟩ := w3 i v H'' hy os[i] ho
      obtain ⟨d, hdd⟩ := walk_fz hw os[i] (List.getElem_mem hlt)
      have hdrop : (O.ds os).drop i = d :: (O.ds os).drop (i + 1) := by
        have h1 : i < (O.ds os).length := by omega
        have h2 : (O.ds os)[i] = d := by
          have : (O.ds os)[i]? = some d := by rw [O.ds_map, List.getElem?_map, ho, hdd]; rfl
          rw [List.getElem?_eq_getElem h1] at this
          exact Option.some.inj this
        rw [← h2]
        exact List.drop_eq_getElem_cons h1
      rw [hdd] at see
      rw [hdrop] at g'
      have f3 := f'.ext x3
      have s3 : Same F2 F3 := s2.trans x3.ff
      cases eb : bindT t (.fz d) st' with
      | none =>
        have : bf d st' = .bad := by rw [hbf]; simp only [eb, opt]
        simp only [forL, this] at g'
        exact g'.elim
      | some st1 =>
        have hbd : bf d st' = execs G b st1 := by rw [hbf]; simp only [eb, opt]
        simp only [forL, hbd] at g'
        obtain ⟨b1, b2⟩ := bindT_fz t d st' st1 eb
        refine ⟨F3, .fz d, st', st1, x3.fh, f3.rep.srel, see, eb, fun σ2 rel2 up => ⟨F3, st1, _, f3.tp rel2 up b1 b2 hr, ?_⟩⟩
        cases er : execs G b st1 with
        | nx st2 => rw [er] at g'; exact fun F'' H3 σ3 fp3 s4 f4 => ⟨F'', st2, fp3, s3.trans s4, f4, g'.mono (x3.ff.trans s4)⟩
        | cnt st2 => rw [er] at g'; exact fun F'' H3 σ3 fp3 s4 f4 => ⟨F'', st2, fp3, s3.trans s4, f4, g'.mono (x3.ff.trans s4)⟩
        | brk st2 => rw [er] at g'; exact fun F'' H3 σ3 fp3 s4 f4 => g' F'' H3 σ3 fp3 (x3.ff.trans s4) f4
        | ret o st2 => rw [er] at g'; exact fun F'' H3 σ3 fp3 v l s4 f4 => g' F'' H3 σ3 fp3 v l (x3.ff.trans s4) f4
        | exc c ds => rw [er] at g'; exact g'
        | bad => rw [er] at g'; exact g'
    · have ei : i = os.length := by omega
      subst ei
      have : (O.ds os).drop os.length = [] := List.drop_eq_nil_of_le (by omega)
      rw [this] at g'
      exact .inl ⟨w2 _ (Nat.le_refl _), g' F' H' σ' fp' (Same.refl _) f'⟩
theorem s_while (c : Cs T M G lim k N sc W X) {t : Te} {b : List S} {body : List Stmt} (hc : PT X e (tT X.K T W G t)) (hb : PSs X body (tSs X.K T W G Z b)) : PS X (.While e body [] pos) (tS X.K T W G Z (.while_ t b)) := by
  refine PS_imp (ps_while c.own hc hb) fun D σ H h => ?_
  obtain ⟨F, st, fp, f, g⟩ := h
  simp only [exec] at g
  refine ⟨fun m σ' H' => ∃ F' st' fp', Same F F' ∧ FrZ X.K T Z F' H' σ' st' fp' ∧ outS X.K T W Z F' (whL (fun st => et G t st) (fun st => execs G b st) m st') D, ⟨fuel, F, st, fp, Same.refl _, f, g⟩, ?_⟩
  rintro m σ' H' ⟨F', st', fp', s, f', g'⟩
  cases m with
  | zero => exact g'.elim
  | succ m =>
    simp only [whL] at g'
    refine then_TS f' g' fun r F1 H1 x1 g1 => ?_
    cases r with
    | false =>
      rw [if_neg Bool.false_ne_true] at g1 ⊢
      exact g1 F1 H1 σ' fp' x1.ff (f'.ext x1)
    | true =>
      rw [if_pos rfl] at g1 ⊢
      refine ⟨fun σ'' H'' => ∃ F'' st'' fp'', Same F F'' ∧ FrZ X.K T Z F'' H'' σ'' st'' fp'' ∧ outS X.K T W Z F'' (whL (fun st => et G t st) (fun st => execs G b st) m st'') D, fun σ'' H'' q => ⟨m, Nat.lt_succ_self _, q⟩, F1, st', fp', f'.ext x1, ?_⟩
      cases er : execs G b st' with
      | nx st2 => simp only [er] at g1; exact fun F'' H3 σ3 fp3 s4 f4 => ⟨F'', st2, fp3, s.trans (x1.ff.trans s4), f4, outS.mono (x1.ff.trans s4) g1⟩
      | cnt st2 => simp only [er] at g1; exact fun F'' H3 σ3 fp3 s4 f4 => ⟨F'', st2, fp3, s.trans (x1.ff.trans s4), f4, outS.mono (x1.ff.trans s4) g1⟩
      | brk st2 => simp only [er] at g1; exact fun F'' H3 σ3 fp3 s4 f4 => g1 F'' H3 σ3 fp3 (x1.ff.trans s4) f4
      | ret o st2 => simp only [er] at g1; exact fun F'' H3 σ3 fp3 v l s4 f4 => g1 F'' H3 σ3 fp3 v l (x1.ff.trans s4) f4
      | exc c ds => simp only [er] at g1; exact g1
      | bad => simp only [er] at g1; exact g1
end
end Ml

set_option Elab.async false
set_option linter.all false
set_option maxRecDepth 100000
set_option maxHeartbeats 4000000
/-! M13: lists within slots are written; fields are put. -/
namespace Ml
open PySem PySem.Spec PyProof.Rows L2
section
variable {T : Tb} {M : Gm} {G : Gl} {lim k : Nat} {N : List Str} {sc : Scope} {W : XK} {X : Cx} {Z : Fz} {a b : E} {x y e : Expr} {pos : Pos} {K : PySem.W.Frag}
theorem PathV.mono {H H' : Hp} (s : Same H H') {v w : V} {ks : List Int} (p : PathV H v ks w) : PathV H' v ks w := by
  induction p with
  | nil => exact .nil
  | cons h1 h2 h3 _ ih => exact .cons (s _ _ h1) h2 h3 ih
theorem PathV.det {H : Hp} {v w : V} {ks : List Int} (p : PathV H v ks w) : ∀ {w'}, PathV H v ks w' → w = w' := by
  induction p with
  | nil =>
    intro w' q
    cases q
    rfl
  | cons h1 h2 h3 _ ih =>
    intro w' q
    cases q with
    | cons g1 g2 g3 q =>
      rw [h1] at g1
      cases g1
      rw [h2] at g2
      cases g2
      rw [h3] at g3
      cases g3
      exact ih q
theorem PathV.snoc {H : Hp} {v w u : V} {ks : List Int} {k : Int} (p : PathV H v ks w) : PathV H w [k] u → PathV H v (ks ++ [k]) u := by
  induction p with
  | nil => exact id
  | cons h1 h2 h3 _ ih => exact fun q => .cons h1 h2 h3 (ih q)
theorem PathV.split {H : Hp} {k : Int} : ∀ {ks : List Int} {v u : V}, PathV H v (ks ++ [k]) u → ∃ w, PathV H v ks w ∧ PathV H w [k] u
  | [], v, u, p => ⟨v, .nil, p⟩
  | _ :: _, v, u, p => by
    cases p with
    | cons h1 h2 h3 p =>
      obtain ⟨w, a, b⟩ := PathV.split p
      exact ⟨w, .cons h1 h2 h3 a, b⟩
theorem evs_snoc {st : Ml.St} {c : E} : ∀ {cs : List E}, evs G (cs ++ [c]) st = (evs G cs st).then fun rs => (ev G c st).then fun r => .ok (rs ++ [r])
  | [] => by
    show (ev G c st).then _ = (Rs.ok []).then _
    simp only [Rs.then, evs]
    cases ev G c st <;> rfl
  | d :: cs => by
    show (ev G d st).then (fun r => (evs G (cs ++ [c]) st).then fun rs => .ok (r :: rs)) = ((ev G d st).then fun r => (evs G cs st).then fun rs => .ok (r :: rs)).then _
    rw [evs_snoc (cs := cs)]
    cases ev G d st with
    | bad => rfl
    | exc _ _ => rfl
    | ok r =>
      simp only [Rs.then]
      cases evs G cs st with
      | bad => rfl
      | exc _ _ => rfl
      | ok rs =>
        simp only
        cases ev G c st <;> rfl
theorem pInts_snoc {r : Rv} : ∀ {rs : List Rv} {ks : List Int}, pInts (rs ++ [r]) = some ks → ∃ ks' k, pInts rs = some ks' ∧ int? r.o = some k ∧ ks = ks' ++ [k]
  | [], ks, h => by
    simp only [List.nil_append, pInts] at h
    split at h
    · rename_i i is h1 h2
      cases h2
      cases h
      exact ⟨[], i, rfl, h1, rfl⟩
    · cases h
  | s :: rs, ks, h => by
    simp only [List.cons_append, pInts] at h
    split at h
    · rename_i i is h1 h2
      cases h
      obtain ⟨ks', k, e1, e2, rfl⟩ := pInts_snoc h2
      refine ⟨i :: ks', k, ?_, e2, rfl⟩
      simp only [pInts, h1, e1]
    · cases h
/-- the value at a place -/
def tPath (K : PySem.W.Frag) (T : Tb) (W : XK) (G : Gl) (i : Nat) (p : List E) : TE := fun σ H Q => ∃ F st v0 rs ks w, Same F H ∧ SRel K T F H σ st ∧ σ[i]? = some (some v0) ∧ evs G p st = .ok rs ∧ pInts rs = some ks ∧ PathV H v0 ks w ∧
  ∀ F' H', Ext F H F' H' → Q w H'
theorem p_path (c : Cap T M G lim k N sc W X) {i : Nat} : ∀ {rp : List E} {e : Expr}, okP M lim N sc i rp e = true → PE X e (tPath X.K T W G i rp.reverse)
  | [], e, h => by
    unfold okP at h
    split at h <;> first | contradiction | (rename_i heq _; cases heq; done) | skip
    rename_i n p
    simp only [Bool.and_eq_true, decide_eq_true_eq] at h
    obtain ⟨⟨h1, h2⟩, h3⟩ := h
    refine PE_imp (pe_var (i := i) (by rw [c.hN]; exact h1) (c.loc _ h2) (dbg_of h3).1 (dbg_of h3).2) fun σ H Q h => ?_
    obtain ⟨F, st, v0, rs, ks, w, sub, rel, e1, g, hk, pv, q⟩ := h
    cases g
    cases hk
    cases pv
    exact ⟨v0, e1, q F H (Ext.refl sub)⟩
  | kx :: ks, e, h => by
    unfold okP at h
    split at h <;> first | contradiction | (rename_i heq _; cases heq; done) | skip
    rename_i heq
    cases heq
    rename_i x s p
    simp only [Bool.and_eq_true] at h
    obtain ⟨⟨h1, h2⟩, h3⟩ := h
    refine PE_imp (pe_ix (ix_list) (p_path c h2) (ok_E kx s c h3) (plainIx_c h1)) fun σ H Q h => ?_
    obtain ⟨F, st, v0, rs, kks, w, sub, rel, e1, g, hk, pv, q⟩ := h
    rw [List.reverse_cons, evs_snoc] at g
    cases q1 : evs G ks.reverse st with
    | bad => rw [q1] at g; cases g
    | exc _ _ => rw [q1] at g; cases g
    | ok rs1 =>
      rw [q1] at g
      simp only [Rs.then] at g
      cases q2 : ev G kx st with
      | bad => rw [q2] at g; cases g
      | exc _ _ => rw [q2] at g; cases g
      | ok r =>
        rw [q2] at g
        cases g
        obtain ⟨ks', k, hk1, hk2, rfl⟩ := pInts_snoc hk
        obtain ⟨u, p1, p2⟩ := PathV.split pv
        refine ⟨F, st, v0, rs1, ks', u, sub, rel, e1, q1, hk1, p1, fun F1 H1 x1 => ?_⟩
        refine ⟨F1, st, x1.fh, rel.ext x1, ?_⟩
        rw [q2]
        intro v F2 H2 x2 rr
        cases p2 with
        | cons g1 g2 g3 g4 =>
          cases g4
          rename_i a xs j
          exact ⟨a, xs, k, w, rfl, int_of rr.see hk2, .inl (.inl (x2.hh _ _ (x1.hh _ _ g1))), atI_of rfl g2 g3, q F2 H2 (x1.trans x2)⟩
/-- what a slot owns is written -/
theorem Fr.write {F H : Hp} {σ : L2.St} {st : Ml.St} {fp : Nat → List Addr} {i : Nat} {o' : O} {v0 : V} {p : Addr} {u : HO} {l : List Addr} (f : FrZ K T Z F H σ st fp) (hi : i < st.length) (hv : σ[i]? = some (some v0)) (hp : p ∈ fp i) (q : RepO K T F (upd H p u) o' v0 l)
    (hl : ∀ a ∈ l, a ∈ fp i ∨ ((∀ j, a ∉ fp j) ∧ (a ∈ Z.fp ∨ Z.H a = none))) : FrZ K T Z F (upd H p u) σ (st.set i (some o')) (upN fp i l) := by
  have hd := f.rep.dom i p hp
  refine ⟨⟨f.aft.ff, fun a o e => ?_, fun a o e n => ?_, f.aft.nw⟩, f.rep.upd (Same.refl _) (fun j z => ⟨fun a ha o e => ?_, fun a ha => (f.rep.dom j a ha).1⟩) (by rw [List.length_set, f.rep.len]) (fun j _ => rfl) (fun j z => List.getElem?_set_ne (Ne.symm z)) (fun o e => ?_)
    (fun a ha j z y => ?_) fun a ha => RepO.dom _ _ _ q a ha, upN_own f.own fun a ha => ?_, f.ref⟩
  · rw [upd_ne (ne_of_none e hd.1)]
    exact f.aft.fh a o e
  · have : a ≠ p := fun z => by
      subst z
      rcases f.own i a hp with y | y
      · exact n y
      · rw [y] at e; cases e
    rw [upd_ne this]
    exact f.aft.keep a o e n
  · rw [upd_ne fun y => z (f.rep.dis j i a ha (by rw [y]; exact hp))]
    exact e
  · rw [List.getElem?_set_self hi] at e
    cases e
    exact ⟨v0, hv, q⟩
  · rcases hl a ha with x | x
    · exact z (f.rep.dis j i a y x)
    · exact x.1 j y
  · rcases hl a ha with x | x
    · exact f.own i a x
    · exact x.2
theorem RepOs.append {F H : Hp} : ∀ {os ps : List O} {vs ws : List V} {l m : List Addr}, RepOs K T F H os vs l → RepOs K T F H ps ws m → (∀ a ∈ l, a ∉ m) → RepOs K T F H (os ++ ps) (vs ++ ws) (l ++ m)
  | [], ps, vs, ws, l, m, r, s, d => by
    rw [r.1, r.2]
    exact s
  | o :: os, ps, vs, ws, l, m, r, s, d => by
    obtain ⟨v, w, f1, f2, e, h1, h2, h3, h4⟩ := r
    subst e h4
    refine ⟨v, w ++ ws, f1, f2 ++ m, rfl, h1, RepOs.append h2 s fun a ha => d a (List.mem_append_right _ ha), fun a ha z => ?_, by rw [List.append_assoc]⟩
    rcases List.mem_append.mp z with z | z
    · exact h3 a ha z
    · exact d a (List.mem_append_left _ ha) z
theorem RepOs.split {F H : Hp} (n : Nat) : ∀ {os : List O} {vs : List V} {l : List Addr}, RepOs K T F H os vs l → ∃ l1 l2, RepOs K T F H (os.take n) (vs.take n) l1 ∧ RepOs K T F H (os.drop n) (vs.drop n) l2 ∧ (∀ a ∈ l1, a ∉ l2) ∧ l = l1 ++ l2 := by
  induction n with
  | zero => exact fun {os vs l} r => ⟨[], l, ⟨rfl, rfl⟩, r, (fun _ z => nomatch z), rfl⟩
  | succ n ih =>
    intro os vs l r
    cases os with
    | nil =>
      rw [r.1, r.2]
      exact ⟨[], [], ⟨rfl, rfl⟩, ⟨rfl, rfl⟩, (fun _ z => nomatch z), rfl⟩
    | cons o os =>
      obtain ⟨v, w, f1, f2, e, h1, h2, h3, h4⟩ := r
      subst e h4
      obtain ⟨l1, l2, a1, a2, a3, a4⟩ := ih h2
      subst a4
      refine ⟨f1 ++ l1, l2, ⟨v, w.take n, f1, l1, rfl, h1, a1, fun a ha z => h3 a ha (List.mem_append_left _ z), rfl⟩, a2, fun a ha z => ?_, by rw [List.append_assoc]⟩
      rcases List.mem_append.mp ha with y | y
      · exact h3 a y (List.mem_append_right _ z)
      · exact a3 a y z
theorem RepOs.one {F H : Hp} {o : O} {v : V} {l : List Addr} (h : RepO K T F H o v l) : RepOs K T F H [o] [v] l := ⟨v, [], l, [], rfl, h, ⟨rfl, rfl⟩, (fun _ _ z => nomatch z), by rw [List.append_nil]⟩
theorem RepOs.two {F H : Hp} {o1 o2 : O} {vs : List V} {l : List Addr} (h : RepOs K T F H [o1, o2] vs l) : ∃ v1 v2 l1 l2, vs = [v1, v2] ∧ RepO K T F H o1 v1 l1 ∧ RepO K T F H o2 v2 l2 ∧ (∀ a ∈ l1, a ∈ l) ∧ ∀ a ∈ l2, a ∈ l := by
  obtain ⟨v, w, f1, f2, e, h1, ⟨v', w', f3, f4, e', h2, h3, _, e5⟩, _, e4⟩ := h
  subst e e' e4 e5
  rw [h3.1]
  exact ⟨v, v', f1, f3, rfl, h1, h2, fun a ha => List.mem_append_left _ ha, fun a ha => List.mem_append_right _ (List.mem_append_left _ ha)⟩
theorem RepOs.one_of {F H : Hp} {o : O} {vs : List V} {l : List Addr} (h : RepOs K T F H [o] vs l) : ∃ v, vs = [v] ∧ RepO K T F H o v l := by
  obtain ⟨v, w, f1, f2, e, h1, h2, _, e4⟩ := h
  subst e e4
  rw [h2.1, h2.2, List.append_nil]
  exact ⟨v, rfl, h1⟩
/-- the rule of a method of lists that answers None -/
structure MuR (K : PySem.W.Frag) (T : Tb) (m : Mu) (r : V → List V → Hp → VK → Prop) : Prop where
  run : ∀ {F H : Hp} {os as : List O} {q : List O × O} {xs vs : List V} {l la : List Addr}, muO m os as = some q → RepOs K T F H os xs l → RepOs K T F H as vs la → (∀ a ∈ l, a ∉ la) → ∃ ys fn, RepOs K T F H q.1 ys fn ∧ (∀ a ∈ fn, a ∈ l ∨ a ∈ la) ∧
    ∀ p (Q : VK), H p = some (.lst xs) → Q .non (upd H p (.lst ys)) → r (.ref p) vs H Q
theorem mu_app : MuR K T .app rAppend := ⟨fun {F H os as q xs vs l la} h r s d => by
  match as, h with
  | [x], h =>
    simp only [muO] at h
    split at h
    · rename_i hl
      cases h
      obtain ⟨v, rfl, hv⟩ := RepOs.one_of s
      exact ⟨xs ++ [v], l ++ la, RepOs.append r s d, fun a ha => List.mem_append.mp ha, fun p Q hp q => ⟨p, xs, v, rfl, rfl, hp, by rw [RepOs.length r]; exact hl, q⟩⟩
    · cases h⟩
theorem mu_ins : MuR K T .ins (fun x vs H Q => ∃ (l : Addr) (xs : List V) (i : Int) (y : V), x = .ref l ∧ vs = [.int i, y] ∧ H l = some (.lst xs) ∧ xs.length < sizeLine ∧ 0 ≤ i ∧ i < 2 ^ 63 ∧
    Q .non (upd H l (.lst (xs.take i.toNat ++ [y] ++ xs.drop i.toNat)))) := ⟨fun {F H os as q xs vs l la} h r s d => by
  match as, h with
  | [j, x], h =>
    simp only [muO] at h
    split at h
    · rename_i i hi
      split at h
      · rename_i hl
        cases h
        obtain ⟨v1, v2, l1, l2, rfl, h1, h2, s1, s2⟩ := RepOs.two s
        have e1 : v1 = .int i := int_of ⟨l1, h1⟩ hi
        subst e1
        obtain ⟨m1, m2, r1, r2, d12, el⟩ := RepOs.split i.toNat r
        subst el
        refine ⟨xs.take i.toNat ++ ([v2] ++ xs.drop i.toNat), m1 ++ (l2 ++ m2), RepOs.append r1 (RepOs.append (RepOs.one h2) r2 fun a ha z => d a (List.mem_append_right _ z) (s2 a ha)) fun a ha z => ?_, fun a ha => ?_, fun p Q hp q => ⟨p, xs, i, v2, rfl, rfl, hp, by rw [RepOs.length r]; exact hl.1, hl.2.1, hl.2.2, by rw [List.append_assoc]; exact q⟩⟩
        · rcases List.mem_append.mp z with z | z
          · exact d a (List.mem_append_left _ ha) (s2 a z)
          · exact d12 a ha z
        · rcases List.mem_append.mp ha with z | z
          · exact .inl (List.mem_append_left _ z)
          · rcases List.mem_append.mp z with z | z
            · exact .inr (s2 a z)
            · exact .inl (List.mem_append_right _ z)
      · cases h
    · cases h⟩
theorem s_mut {i : Nat} {p : List E} {m : Mu} {es : List E} {args : List Expr} {id : String} {an : Str} {p1 p2 p3 : Pos} {r : V → List V → Hp → VK → Prop} (hr : MuR X.K T m r) (slot : Slot "list" an id) (hty : typeOf (.builtin id) = pure (.type "method_descriptor")) (hm : MtR X id r)
    (hb : notCall x = true) (hline : (p1.endLine == p2.line) = true) (hp : PE X x (tPath X.K T W G i p)) (he : PA X args (tEs X.K T W G es))
    (h : ∀ {to : TE} {t : TA}, PE X x to → PA X args t → PE X (.Call (.Attribute x an p1) args [] p2) (tBM X.K "list" r to t)) :
    PS X (.Expr (.Call (.Attribute x an p1) args [] p2) p3) (tS X.K T W G Z (.mut i p m es)) := by
  refine PS_imp (ps_expr (h hp he) (swaps_no rfl)) fun D σ H h => ?_
  obtain ⟨F, st, fp, f, g⟩ := h
  simp only [exec] at g
  split at g
  · rename_i root hroot
    obtain ⟨v0, hv0, rep0⟩ := f.rep.at_ i root hroot
    cases q1 : evs G p st with
    | bad => rw [q1] at g; exact g.elim
    | exc _ _ => rw [q1] at g; exact g.elim
    | ok rs =>
      rw [q1] at g
      simp only [Rs.calm, Rs.out] at g
      obtain ⟨ks, hks, g⟩ := outS_opt g
      split at g
      · rename_i os hos
        obtain ⟨pa, xs, fq, pv, hpa, hfa, ro, npa, pin, fqin, _⟩ := RepO.path rep0 hos
        refine ⟨F, st, v0, rs, ks, .ref pa, f.sub, f.rep.srel, hv0, q1, hks, pv, fun F1 H1 x1 => ⟨.inl ⟨rfl, xs, .inl (.inl (x1.hh _ _ hpa))⟩, ?_⟩⟩
        have f1 := f.ext x1
        refine then_EsS f1 (g.mono x1.ff) fun ra vs F2 H2 ms x2 rr g2 => ?_
        obtain ⟨as, has, g2⟩ := outS_opt g2
        obtain ⟨q, hq, g2⟩ := outS_opt g2
        have f2 := f1.ext x2
        obtain ⟨v0', hv0', rep2⟩ := f2.rep.at_ i root hroot
        have ev0 : v0' = v0 := by rw [hv0] at hv0'; cases hv0'; rfl
        subst ev0
        obtain ⟨pa2, xs2, fq2, pv2, hpa2, hfa2, ro2, npa2, pin2, fqin2, wr⟩ := RepO.path rep2 hos
        have epa : V.ref pa = V.ref pa2 := PathV.det (PathV.mono (x1.hh.trans x2.hh) pv) pv2
        cases epa
        obtain ⟨la, ras, sla⟩ := RepRs.toOs has rr
        have hnew : ∀ a ∈ la, H1 a = none := fun a ha => rr.new a (sla a ha)
        have hout : ∀ a ∈ la, ∀ j, a ∉ fp j := fun a ha j z => by
          obtain ⟨_, u, hu⟩ := f1.rep.dom j a z
          rw [hnew a ha] at hu
          cases hu
        obtain ⟨ys, fn, rn, sfn, fin⟩ := hr.run hq ro2 ras fun a ha z => hout a z i (fqin2 a ha)
        obtain ⟨l, rl, sl⟩ := wr (ys := ys) rn (fun z => (sfn pa z).elim npa2 fun y => hout pa y i pin2) fun a ha => (sfn a ha).imp_right fun z => hout a z i
        refine fin pa _ hpa2 (g2 F2 _ σ _ x2.ff (f2.write (List.getElem?_eq_some_iff.mp hroot).1 hv0 pin2 rl fun a ha => ?_))
        rcases sl a ha with z | z
        · rcases sfn a z with y | y
          · exact .inl (fqin2 a y)
          · exact .inr ⟨hout a y, f1.aft.new (hnew a y)⟩
        · exact .inl z.1
      · exact g.elim
  · exact g.elim
theorem ix_set {os : List O} {m : Nat} {k : Int} (h : ixN os.length k = some m) : m < os.length := by
  exact (ixN_seq h).2.1
theorem RepOs.set {F H : Hp} {os : List O} {xs : List V} {l l' : List Addr} {m : Nat} {o : O} {v : V} (r : RepOs K T F H os xs l) (hm : m < os.length) (q : RepO K T F H o v l') (d : ∀ a ∈ l', a ∉ l) : ∃ fn, RepOs K T F H (os.set m o) (xs.set m v) fn ∧ ∀ a ∈ fn, a ∈ l' ∨ a ∈ l := by
  obtain ⟨v1, f1, e1, q1, s1, step⟩ := RepOs.upd r (List.getElem?_eq_getElem hm)
  obtain ⟨fn, rn, sn⟩ := step (Same.refl _) ⟨fun _ _ _ e => e, fun a ha => (RepOs.dom _ _ _ r a (List.mem_filter.mp ha).1).1⟩ q fun a ha => .inr (d a ha)
  exact ⟨fn, rn, fun a ha => (sn a ha).imp_right fun z => z.1⟩
theorem s_seti {i : Nat} {p : List E} {j w : E} {o s : Expr} {tp : Pos} (hp : PE X o (tPath X.K T W G i p)) (hj : PE X s (tE X.K T W G j)) (he : PE X e (tE X.K T W G w)) (hs : notSlice s = true) :
    PS X (.Assign [.Subscript o s tp] e pos) (tS X.K T W G Z (.seti i p j w)) := by
  have hsw : swapsWithSole [.Subscript o s tp] e pos.line X.env = pure false := by
    show swapsWith e (some (.Subscript o s tp)) pos.line X.env = _
    cases e <;> rfl
  have hst : swappedStores [.Subscript o s tp] e X.env = pure none := by
    cases e <;> rfl
  have ha : ∀ v, assign (.Subscript o s tp) X.env v = (do
      let ov ← holding [v] (eval o X.env)
      let iv ← holding [v, ov] (eval s X.env)
      standAt tp
      holding [v, ov, iv] (setItem ov iv v)
      release [v, ov, iv] []) := by
    intro v
    cases s <;> first | rfl | cases hs
  refine PS_imp (ps_asg he (pg_sub hp hj set_list ha) hsw hst rfl) fun D σ H h => ?_
  obtain ⟨F, st, fp, f, g⟩ := h
  simp only [exec] at g
  refine then_ES f g fun r v F1 H1 x1 rr g1 => ?_
  obtain ⟨on, hon, g1⟩ := outS_opt g1
  obtain ⟨l, q, hn⟩ := RepR.owned hon rr
  have f1 := f.ext x1
  split at g1
  · rename_i root hroot
    obtain ⟨v0, hv0, rep0⟩ := f1.rep.at_ i root hroot
    cases q1 : evs G p st with
    | bad => rw [q1] at g1; exact g1.elim
    | exc _ _ => rw [q1] at g1; exact g1.elim
    | ok rs =>
      rw [q1] at g1
      simp only [Rs.calm, Rs.out] at g1
      obtain ⟨ks, hks, g1⟩ := outS_opt g1
      split at g1
      · rename_i os hos
        obtain ⟨pa, xs, fq, pv, hpa, hfa, ro, npa, pin, fqin, _⟩ := RepO.path rep0 hos
        refine ⟨F1, st, v0, rs, ks, .ref pa, f1.sub, f1.rep.srel, hv0, q1, hks, pv, fun F2 H2 x2 => ?_⟩
        have f2 := f1.ext x2
        refine then_ES f2 (g1.mono (x1.ff.trans x2.ff)) fun rj vj F3 H3 x3 rrj g3 => ?_
        obtain ⟨kk, hkk, g3⟩ := outS_opt g3
        obtain ⟨m, hm, g3⟩ := outS_opt g3
        have f3 := f2.ext x3
        obtain ⟨v0', hv0', rep3⟩ := f3.rep.at_ i root hroot
        have ev0 : v0' = v0 := by rw [hv0] at hv0'; cases hv0'; rfl
        subst ev0
        obtain ⟨pa3, xs3, fq3, pv3, hpa3, hfa3, ro3, npa3, pin3, fqin3, wr⟩ := RepO.path rep3 hos
        have epa : V.ref pa = V.ref pa3 := PathV.det (PathV.mono (x2.hh.trans x3.hh) pv) pv3
        cases epa
        have x13 := x2.trans x3
        have q3 : RepO X.K T F3 H3 on v l := RepO.mono x13.ff on v l q (x13.stay (RepO.dom on v l q))
        have hout : ∀ a ∈ l, ∀ j, a ∉ fp j := fun a ha j z => by
          obtain ⟨_, u, hu⟩ := f.rep.dom j a z
          rw [hn a ha] at hu
          cases hu
        have hml := ix_set hm
        obtain ⟨fn, rn, sfn⟩ := RepOs.set ro3 hml q3 fun a ha z => hout a ha i (fqin3 a z)
        obtain ⟨l', rl, sl⟩ := wr (ys := xs3.set m v) rn (fun z => (sfn pa z).elim (fun y => hout pa y i pin3) npa3) fun a ha => (sfn a ha).symm.imp_right fun z => hout a z i
        refine ⟨pa, xs3, kk, m, rfl, int_of rrj.see hkk, hpa3, by rw [RepOs.length ro3]; exact hm, ?_⟩
        refine g3 F3 _ σ _ x3.ff (f3.write (List.getElem?_eq_some_iff.mp hroot).1 hv0 pin3 rl fun a ha => ?_)
        rcases sl a ha with z | z
        · rcases sfn a z with y | y
          · exact .inr ⟨hout a y, f.aft.new (hn a y)⟩
          · exact .inl (fqin3 a y)
        · exact .inl z.1
      · exact g1.elim
  · exact g1.elim
end
end Ml

set_option Elab.async false
set_option linter.all false
set_option maxRecDepth 100000
set_option maxHeartbeats 4000000
/-! M14: fields put; calls with lent slots. -/
namespace Ml
open PySem PySem.Spec PyProof.Rows L2
section
variable {T : Tb} {M : Gm} {G : Gl} {lim k : Nat} {N : List Str} {sc : Scope} {W : XK} {X : Cx} {Z : Fz} {a b : E} {x y e : Expr} {pos : Pos} {K : PySem.W.Frag}
/-! ### a field is put -/
theorem put_rep {F H : Hp} {f : Nat} {o : O} {v : V} {lo : List Addr} (inj : ∀ i j, i < T.nl → j < T.nl → T.nm i = T.nm j → i = j) (hf : f < T.nl) (q : RepO K T F H o v lo) : ∀ {ns : List Nat} {os : List O} {fs : List (Str × V)} {l : List Addr}, RepOs K T F H os (fs.map (·.2)) l →
    fs.map (·.1) = ns.map T.nm → (∀ n ∈ ns, n < T.nl) → (∀ a ∈ lo, a ∉ l) →
    ∃ l', RepOs K T F H (putN f o ns os).2 ((putF (T.nm f) v fs).map (·.2)) l' ∧ (putF (T.nm f) v fs).map (·.1) = (putN f o ns os).1.map T.nm ∧ (∀ n ∈ (putN f o ns os).1, n < T.nl) ∧ ∀ a ∈ l', a ∈ lo ∨ a ∈ l
  | [], os, fs, l, r, hn, hb, d => by
    cases fs with
    | cons p fs => cases hn
    | nil =>
      have ho : putN f o [] os = ([f], [o]) := by cases os <;> rfl
      rw [ho]
      exact ⟨lo, RepOs.one q, rfl, fun n h => by rw [List.mem_singleton.mp h]; exact hf, fun a ha => .inl ha⟩
  | n :: ns, os, fs, l, r, hn, hb, d => by
    cases fs with
    | nil => cases hn
    | cons p fs =>
      obtain ⟨g, w⟩ := p
      simp only [List.map_cons, List.cons.injEq] at hn
      obtain ⟨hg, hn⟩ := hn
      cases os with
      | nil => cases r.1
      | cons o1 os =>
        obtain ⟨v1, w1, f1, f2, e, h1, h2, h3, h4⟩ := r
        simp only [List.map_cons, List.cons.injEq] at e
        obtain ⟨e1, e2⟩ := e
        subst e1 h4
        rw [← e2] at h2
        by_cases z : n = f
        · subst z
          have e3 : putN n o (n :: ns) (o1 :: os) = (n :: ns, o :: os) := by simp only [putN, if_pos]
          have e4 : putF (T.nm n) v ((g, w) :: fs) = (g, v) :: fs := by
            show (if g = T.nm n then (g, v) :: fs else (g, w) :: putF (T.nm n) v fs) = _
            rw [if_pos hg]
          rw [e3, e4]
          refine ⟨lo ++ f2, ⟨v, fs.map (·.2), lo, f2, rfl, q, h2, fun a ha y => d a ha (List.mem_append_right _ y), rfl⟩, ?_, hb, fun a ha => (List.mem_append.mp ha).imp_right (List.mem_append_right _)⟩
          simp only [List.map_cons]
          rw [hg, hn]
        · have ne : g ≠ T.nm f := fun y => z (inj n f (hb n List.mem_cons_self) hf (by rw [← hg, y]))
          have e3 : putN f o (n :: ns) (o1 :: os) = (n :: (putN f o ns os).1, o1 :: (putN f o ns os).2) := by simp only [putN, if_neg z]
          have e4 : putF (T.nm f) v ((g, w) :: fs) = (g, w) :: putF (T.nm f) v fs := by
            show (if g = T.nm f then (g, v) :: fs else (g, w) :: putF (T.nm f) v fs) = _
            rw [if_neg ne]
          obtain ⟨l', r', n', b', s'⟩ := put_rep inj hf q h2 hn (fun m hm => hb m (List.mem_cons_of_mem _ hm)) fun a ha y => d a ha (List.mem_append_right _ y)
          rw [e3, e4]
          refine ⟨f1 ++ l', ⟨w, _, f1, l', rfl, h1, r', fun a ha y => ?_, rfl⟩, ?_, fun m hm => ?_, fun a ha => ?_⟩
          · rcases s' a y with u | u
            · exact d a u (List.mem_append_left _ ha)
            · exact h3 a ha u
          · simp only [List.map_cons]
            rw [hg, n']
          · rcases List.mem_cons.mp hm with u | u
            · rw [u]; exact hb n List.mem_cons_self
            · exact b' m u
          · rcases List.mem_append.mp ha with u | u
            · exact .inr (List.mem_append_left _ u)
            · exact (s' a u).imp_right (List.mem_append_right _)
theorem s_setf (c : Cap T M G lim k N sc W X) {i f : Nat} {w : E} {n g : Str} {p tp : Pos} (hg : M.nms[f]? = some g) (h1 : N[i]? = some n) (h2 : locB sc n = true) (h3 : (!dbg n) = true) (he : PE X e (tE X.K T W G w)) :
    PS X (.Assign [.Attribute (.Name n p) g tp] e pos) (tS X.K T W G Z (.setf i f w)) := by
  have hsw : swapsWith e (some (.Attribute (.Name n p) g tp)) pos.line X.env = pure false := by cases e <;> rfl
  refine PS_imp (ps_fld (pe_var (i := i) (by rw [c.hN]; exact h1) (c.loc n h2) (dbg_of h3).1 (dbg_of h3).2) he hsw) fun D σ H h => ?_
  obtain ⟨F, st, fp, fr, gg⟩ := h
  simp only [exec] at gg
  refine then_ES fr gg fun r v F1 H1 x1 rr g1 => ?_
  obtain ⟨on, hon, g1⟩ := outS_opt g1
  obtain ⟨lo, q, hn⟩ := RepR.owned hon rr
  have f1 := fr.ext x1
  split at g1
  · rename_i cc ns os hi
    split at g1
    · rename_i hcond
      obtain ⟨hcf, hlen, hsmall⟩ := hcond
      obtain ⟨v0, hv0, rep0⟩ := f1.rep.at_ i _ hi
      obtain ⟨pa, dx, fs, fq, e0, hpa, hfa, hfn, hb, ro, npa, efp⟩ := rep0
      subst e0
      obtain ⟨cl, na, hft⟩ := c.fl cc f hcf
      have hnm := c.nms f g hg
      have hout : ∀ a ∈ lo, ∀ j, a ∉ fp j := fun a ha j z => by
        obtain ⟨_, u, hu⟩ := fr.rep.dom j a z
        rw [hn a ha] at hu
        cases hu
      have pin : pa ∈ fp i := by rw [efp]; exact List.mem_cons_self
      have fqin : ∀ a ∈ fq, a ∈ fp i := fun a ha => by rw [efp]; exact List.mem_cons_of_mem _ ha
      obtain ⟨l', r', n', b', s'⟩ := put_rep c.inj hft q ro hfn hb fun a ha y => hout a ha i (fqin a y)
      have hfl : fs.length = ns.length := by
        have := congrArg List.length hfn
        simpa using this
      rw [hnm] at r' n'
      have npl : pa ∉ l' := fun z => by
        rcases s' pa z with y | y
        · exact hout pa y i pin
        · exact npa y
      refine ⟨.ref pa, hv0, pa, T.cls cc, dx, fs, rfl, hpa, cl, by rw [← hnm]; exact na, by omega, ?_⟩
      refine g1 F1 _ σ _ x1.ff (f1.write (List.getElem?_eq_some_iff.mp hi).1 hv0 pin (l := pa :: l') ⟨pa, dx, _, l', rfl, upd_same, hfa, n', b', ?_, npl, rfl⟩ fun a ha => ?_)
      · exact RepOs.mono (Same.refl _) _ _ _ r' ⟨fun a ha u hu => by rw [upd_ne fun z => npl (by rw [← z]; exact ha)]; exact hu, fun a ha => (RepOs.dom _ _ _ r' a ha).1⟩
      · rcases List.mem_cons.mp ha with z | z
        · exact .inl (by rw [z]; exact pin)
        · rcases s' a z with y | y
          · exact .inr ⟨hout a y, fr.aft.new (hn a y)⟩
          · exact .inl (fqin a y)
    · exact g1.elim
  · exact g1.elim

/-! ### the arguments of a call -/
def ArgV (K : PySem.W.Frag) (T : Tb) (F : Hp) (σ : L2.St) : List Ag → List O → List V → Prop
  | [], os, vs => os = [] ∧ vs = []
  | .r i :: as, os, vs => ∃ o os' v vs', os = o :: os' ∧ vs = v :: vs' ∧ σ[i]? = some (some v) ∧ ArgV K T F σ as os' vs'
  | .e _ :: as, os, vs => ∃ d os' v vs', os = .fz d :: os' ∧ vs = v :: vs' ∧ Rep K T F d v ∧ ArgV K T F σ as os' vs'
def tAs (K : PySem.W.Frag) (T : Tb) (W : XK) (G : Gl) (as : List Ag) : TA := fun σ H Q => ∃ F st, Same F H ∧ SRel K T F H σ st ∧ outE K T W F H (evA G as st) fun os => ∀ vs F' H', Ext F H F' H' → ArgV K T F' σ as os vs → Q vs H'
theorem as_nil : PA X [] (tAs X.K T W G []) := PA_imp pa_nil fun σ H Q h => by
  obtain ⟨F, st, sub, rel, g⟩ := h
  exact g [] F H (Ext.refl sub) ⟨rfl, rfl⟩
theorem as_e {c : E} {as : List Ag} {es : List Expr} (hs : notStar x = true) (ha : PE X x (tE X.K T W G c)) (hr : PA X es (tAs X.K T W G as)) : PA X (x :: es) (tAs X.K T W G (.e c :: as)) := by
  refine PA_imp (pa_cons ha hr (starEach_c hs)) fun σ H Q h => ?_
  obtain ⟨F, st, sub, rel, g⟩ := h
  simp only [evA] at g
  refine then_E sub rel g fun r v F1 H1 _ x1 r1 rel1 h1 => ?_
  cases hd : r.toD with
  | none => simp only [hd] at h1; exact h1.elim
  | some d =>
    simp only [hd] at h1
    obtain ⟨F2, x2, s2, rd⟩ := RepR.frozen x1 hd r1
    refine ⟨F2, st, x2.fh, rel.ext x2, ?_⟩
    cases e1 : evA G as st with
    | bad => rw [e1] at h1; exact h1
    | exc y ds => rw [e1] at h1; exact ExcW.ext x2 h1
    | ok os =>
      rw [e1] at h1
      simp only [Rs.then] at h1
      exact fun vs F3 H3 x3 av => h1 (v :: vs) F3 H3 (x2.trans x3) ⟨d, os, v, vs, rfl, rfl, Rep.mono x3.ff d v rd, av⟩
theorem as_r (c : Cap T M G lim k N sc W X) {i : Nat} {n : Str} {p : Pos} {as : List Ag} {es : List Expr} (h1 : N[i]? = some n) (h2 : locB sc n = true) (h3 : (!dbg n) = true) (hr : PA X es (tAs X.K T W G as)) : PA X (.Name n p :: es) (tAs X.K T W G (.r i :: as)) := by
  refine PA_imp (pa_cons (pe_var (i := i) (by rw [c.hN]; exact h1) (c.loc n h2) (dbg_of h3).1 (dbg_of h3).2) hr rfl) fun σ H Q h => ?_
  obtain ⟨F, st, sub, rel, g⟩ := h
  simp only [evA] at g
  split at g
  · rename_i o ho
    obtain ⟨v, e1, s⟩ := rel.at_ i o ho
    refine ⟨v, e1, F, st, sub, rel, ?_⟩
    cases q : evA G as st with
    | bad => rw [q] at g; exact g
    | exc y ds => rw [q] at g; exact g
    | ok os =>
      rw [q] at g
      simp only [Rs.then] at g
      exact fun vs F3 H3 x3 av => g (v :: vs) F3 H3 x3 ⟨o, os, v, vs, rfl, rfl, e1, av⟩
  · exact g.elim
/-- the lent slots -/
def lentOf : List Ag → List Nat
  | [] => []
  | .r i :: as => i :: lentOf as
  | .e _ :: as => lentOf as
/-- where the lent ones stand -/
def posA : List Ag → Nat → List Nat
  | [], _ => []
  | .r _ :: as, n => n :: posA as (n + 1)
  | .e _ :: as, n => posA as (n + 1)
theorem evA_len {st : Ml.St} : ∀ {as : List Ag} {os : List O}, evA G as st = .ok os → os.length = as.length
  | [], os, h => by cases h; rfl
  | .r i :: as, os, h => by
    simp only [evA] at h
    split at h
    · cases q : evA G as st with
      | ok os' =>
        rw [q] at h
        cases h
        rw [List.length_cons, List.length_cons, evA_len q]
      | exc _ _ => rw [q] at h; cases h
      | bad => rw [q] at h; cases h
    · cases h
  | .e c :: as, os, h => by
    simp only [evA] at h
    cases q1 : ev G c st with
    | ok r =>
      rw [q1] at h
      simp only [Rs.then] at h
      split at h
      · cases q : evA G as st with
        | ok os' =>
          rw [q] at h
          cases h
          rw [List.length_cons, List.length_cons, evA_len q]
        | exc _ _ => rw [q] at h; cases h
        | bad => rw [q] at h; cases h
      · cases h
    | exc _ _ => rw [q1] at h; cases h
    | bad => rw [q1] at h; cases h
theorem args_rep {F H : Hp} {σ : L2.St} {st : Ml.St} {fp : Nat → List Addr} (r : RepS K T F H σ st fp) : ∀ {as : List Ag} {os : List O} {vs : List V}, (lentOf as).Nodup → evA G as st = .ok os → ArgV K T F σ as os vs → ∃ l, RepOs K T F H os vs l ∧ (∀ a ∈ l, ∃ i ∈ lentOf as, a ∈ fp i)
  | [], os, vs, _, _, av => by
    obtain ⟨e1, e2⟩ := av
    subst e1 e2
    exact ⟨[], ⟨rfl, rfl⟩, fun _ z => nomatch z⟩
  | .r i :: as, os, vs, nd, h, av => by
    obtain ⟨o, os', v, vs', rfl, rfl, hv, av⟩ := av
    have nd' := List.nodup_cons.mp nd
    simp only [evA] at h
    split at h
    · rename_i o1 ho1
      cases q : evA G as st with
      | ok os2 =>
        rw [q] at h
        simp only [Rs.then] at h
        cases h
        obtain ⟨l, rl, sl⟩ := args_rep r nd'.2 q av
        obtain ⟨v1, e1, q1⟩ := r.at_ i _ ho1
        rw [hv] at e1
        cases e1
        refine ⟨fp i ++ l, ⟨v, vs', fp i, l, rfl, q1, rl, fun a ha z => ?_, rfl⟩, fun a ha => ?_⟩
        · obtain ⟨j, hj, y⟩ := sl a z
          obtain rfl := r.dis i j a ha y
          exact nd'.1 hj
        · rcases List.mem_append.mp ha with z | z
          · exact ⟨i, List.mem_cons_self, z⟩
          · obtain ⟨j, hj, y⟩ := sl a z
            exact ⟨j, List.mem_cons_of_mem _ hj, y⟩
      | exc _ _ => rw [q] at h; cases h
      | bad => rw [q] at h; cases h
    · cases h
  | .e c :: as, os, vs, nd, h, av => by
    obtain ⟨d, os', v, vs', rfl, rfl, hv, av⟩ := av
    simp only [evA] at h
    cases q1 : ev G c st with
    | ok r1 =>
      rw [q1] at h
      simp only [Rs.then] at h
      split at h
      · cases q : evA G as st with
        | ok os2 =>
          rw [q] at h
          cases h
          obtain ⟨l, rl, sl⟩ := args_rep r (as := as) nd q av
          exact ⟨[] ++ l, ⟨v, vs', [], l, rfl, ⟨hv, rfl⟩, rl, (fun _ z => nomatch z), rfl⟩, sl⟩
        | exc _ _ => rw [q] at h; cases h
        | bad => rw [q] at h; cases h
      · cases h
    | exc _ _ => rw [q1] at h; cases h
    | bad => rw [q1] at h; cases h
/-- the lent slots' values -/
def Lined (σ : L2.St) : List Nat → List V → Prop
  | [], ws => ws = []
  | i :: is, ws => ∃ w ws', ws = w :: ws' ∧ σ[i]? = some (some w) ∧ Lined σ is ws'
theorem lined_of {F : Hp} {σ : L2.St} {us suf : List V} : ∀ {as : List Ag} {os : List O} {vs pre : List V}, ArgV K T F σ as os vs → us = pre ++ (vs ++ suf) → Lined σ (lentOf as) ((posA as pre.length).map fun j => us.getD j .non)
  | [], os, vs, pre, av, e => rfl
  | .r i :: as, os, vs, pre, av, e => by
    obtain ⟨o, os', v, vs', rfl, rfl, hv, av⟩ := av
    refine ⟨us.getD pre.length .non, _, rfl, ?_, ?_⟩
    · rw [e, List.getD_eq_getElem?_getD, List.getElem?_append_right (Nat.le_refl _), Nat.sub_self, List.cons_append]
      exact hv
    · have := lined_of (us := us) (pre := pre ++ [v]) av (by rw [e, List.append_assoc]; rfl)
      rw [List.length_append] at this
      exact this
  | .e c :: as, os, vs, pre, av, e => by
    obtain ⟨d, os', v, vs', rfl, rfl, hv, av⟩ := av
    have := lined_of (us := us) (pre := pre ++ [v]) av (by rw [e, List.append_assoc]; rfl)
    rw [List.length_append] at this
    exact this
theorem back_at {F H : Hp} {σ : L2.St} : ∀ {as : List Ag} {os : List O} {ws : List V} {l : List Addr} {st st' : Ml.St}, (lentOf as).Nodup → backA as os st = some st' → RepOs K T F H os ws l → Lined σ (lentOf as) ws →
    ∃ fn : Nat → List Addr, (∀ j, j ∉ lentOf as → fn j = []) ∧ (∀ j ∈ lentOf as, ∀ o, st'[j]? = some (some o) → ∃ v, σ[j]? = some (some v) ∧ RepO K T F H o v (fn j)) ∧ (∀ j a, a ∈ fn j → a ∈ l) ∧ (∀ i j a, a ∈ fn i → a ∈ fn j → i = j) ∧
      (∀ j, j ∉ lentOf as → st'[j]? = st[j]?) ∧ st'.length = st.length
  | [], os, ws, l, st, st', nd, h, r, li => by
    cases os with
    | nil =>
      cases h
      exact ⟨fun _ => [], fun _ _ => rfl, (fun _ z => nomatch z), (fun _ _ z => nomatch z), (fun _ _ _ z => nomatch z), fun _ _ => rfl, rfl⟩
    | cons _ _ => cases h
  | .e c :: as, os, ws, l, st, st', nd, h, r, li => back_at (as := as) nd h r li
  | .r i :: as, os, ws, l, st, st', nd, h, r, li => by
    cases os with
    | nil => cases h
    | cons o os =>
      have nd' := List.nodup_cons.mp nd
      obtain ⟨w, ws', e1, hw, li'⟩ := li
      obtain ⟨v, r', f1, f2, e, h1, h2, h3, h4⟩ := r
      rw [e1] at e
      cases e
      subst h4
      obtain ⟨fn, g1, g2, g3, g4, g5, g6⟩ := back_at (as := as) (st := st.set i (some o)) nd'.2 h h2 li'
      have hi0 : fn i = [] := g1 i nd'.1
      refine ⟨upN fn i f1, fun j hj => ?_, fun j hj o' ho' => ?_, fun j a ha => ?_, fun j m a hj hm => ?_, fun j hj => ?_, by rw [g6, List.length_set]⟩
      · rw [upN_ne fun z => hj (by rw [z]; exact List.mem_cons_self)]
        exact g1 j fun z => hj (List.mem_cons_of_mem _ z)
      · by_cases z : j = i
        · subst z
          rw [g5 j nd'.1] at ho'
          rw [upN_at]
          by_cases hl : j < st.length
          · rw [List.getElem?_set_self hl] at ho'
            cases ho'
            exact ⟨w, hw, h1⟩
          · rw [List.getElem?_eq_none (by rw [List.length_set]; omega)] at ho'
            cases ho'
        · rw [upN_ne z]
          exact g2 j ((List.mem_cons.mp hj).resolve_left z) o' ho'
      · by_cases z : j = i
        · subst z
          rw [upN_at] at ha
          exact List.mem_append_left _ ha
        · rw [upN_ne z] at ha
          exact List.mem_append_right _ (g3 j a ha)
      · by_cases z : j = i
        · by_cases y : m = i
          · rw [z, y]
          · subst z
            rw [upN_at] at hj
            rw [upN_ne y] at hm
            exact absurd (g3 m a hm) (h3 a hj)
        · by_cases y : m = i
          · subst y
            rw [upN_at] at hm
            rw [upN_ne z] at hj
            exact absurd (g3 j a hj) (h3 a hm)
          · rw [upN_ne z] at hj
            rw [upN_ne y] at hm
            exact g4 j m a hj hm
      · rw [g5 j fun z => hj (List.mem_cons_of_mem _ z)]
        exact List.getElem?_set_ne fun z => hj (by rw [← z]; exact List.mem_cons_self)
/-- behind a call: the frame, the answer -/
theorem call_core {F H F' H' : Hp} {σ : L2.St} {st st' : Ml.St} {fp : Nat → List Addr} {as : List Ag} {os' : List O} {ws : List V} {fpa fr l : List Addr} (f : FrZ K T Z F H σ st fp) (nd : (lentOf as).Nodup) (hfp : ∀ a ∈ fpa, ∃ i ∈ lentOf as, a ∈ fp i) (A : After F H fpa F' H')
    (hb : backA as os' st = some st') (r : RepOs K T F' H' os' ws fr) (li : Lined σ (lentOf as) ws) (dl : ∀ a ∈ l, a ∉ fr) (hn : ∀ a, a ∈ l ∨ a ∈ fr → a ∈ fpa ∨ H a = none) : ∃ fp', FrZ K T Z F' H' σ st' fp' ∧ Alone Z fp' l := by
  obtain ⟨fn, g1, g2, g3, g4, g5, g6⟩ := back_at nd hb r li
  have own : ∀ a ∈ fpa, a ∈ Z.fp ∨ Z.H a = none := fun a ha => by
    obtain ⟨i, _, hi⟩ := hfp a ha
    exact f.own i a hi
  have hown : ∀ a, (a ∈ fpa ∨ H a = none) → a ∈ Z.fp ∨ Z.H a = none := fun a ha => ha.elim (own a) f.aft.new
  have off : ∀ j, j ∉ lentOf as → ∀ a ∈ fp j, a ∉ fpa ∧ ∃ u, H a = some u := fun j hj a ha => ⟨fun z => by
    obtain ⟨i, hi, y⟩ := hfp a z
    exact hj (by rw [f.rep.dis j i a ha y]; exact hi), (f.rep.dom j a ha).2⟩
  have offn : ∀ j, j ∉ lentOf as → ∀ a ∈ fp j, ¬(a ∈ fpa ∨ H a = none) := fun j hj a ha z => by
    obtain ⟨y, u, hu⟩ := off j hj a ha
    rcases z with z | z
    · exact y z
    · rw [z] at hu; cases hu
  refine ⟨fun j => if j ∈ lentOf as then fn j else fp j, ⟨f.aft.trans A own, ⟨by rw [f.rep.len, g6], fun i o e => ?_, fun i j a h1 h2 => ?_, fun i a h => ?_⟩, fun i a h => ?_, f.ref⟩, fun a ha => ⟨fun i z => ?_, hown a (hn a (.inl ha))⟩⟩
  · by_cases z : i ∈ lentOf as
    · rw [if_pos z]
      exact g2 i z o e
    · rw [if_neg z]
      rw [g5 i z] at e
      obtain ⟨v, e1, q⟩ := f.rep.at_ i o e
      refine ⟨v, e1, RepO.mono A.ff o v _ q ⟨fun a ha u hu => A.keep a u hu (off i z a ha).1, fun a ha => ?_⟩⟩
      cases y : F' a with
      | none => rfl
      | some u => exact absurd (A.nw a u y (f.rep.dom i a ha).1) (offn i z a ha)
  · by_cases z : i ∈ lentOf as
    · rw [if_pos z] at h1
      by_cases y : j ∈ lentOf as
      · rw [if_pos y] at h2
        exact g4 i j a h1 h2
      · rw [if_neg y] at h2
        exact absurd (hn a (.inr (g3 i a h1))) (offn j y a h2)
    · rw [if_neg z] at h1
      by_cases y : j ∈ lentOf as
      · rw [if_pos y] at h2
        exact absurd (hn a (.inr (g3 j a h2))) (offn i z a h1)
      · rw [if_neg y] at h2
        exact f.rep.dis i j a h1 h2
  · by_cases z : i ∈ lentOf as
    · rw [if_pos z] at h
      exact RepOs.dom _ _ _ r a (g3 i a h)
    · rw [if_neg z] at h
      obtain ⟨d1, u, d2⟩ := f.rep.dom i a h
      refine ⟨?_, u, A.keep a u d2 (off i z a h).1⟩
      cases y : F' a with
      | none => rfl
      | some u' => exact absurd (A.nw a u' y d1) (offn i z a h)
  · by_cases z : i ∈ lentOf as
    · rw [if_pos z] at h
      exact hown a (hn a (.inr (g3 i a h)))
    · rw [if_neg z] at h
      exact f.own i a h
  · have z : a ∈ (if i ∈ lentOf as then fn i else fp i) := z
    by_cases y : i ∈ lentOf as
    · rw [if_pos y] at z
      exact dl a ha (g3 i a z)
    · rw [if_neg y] at z
      exact offn i y a z (hn a (.inl ha))
/-- the reading of a call with lent slots -/
def outC (K : PySem.W.Frag) (T : Tb) (W : XK) (Z : Fz) (F : Hp) (σ : L2.St) (r : Rs (O × Ml.St)) (Q : VK) : Prop := match r with
  | .ok q => ∀ v F' H' fp' l, Same F F' → FrZ K T Z F' H' σ q.2 fp' → RepO K T F' H' q.1 v l → Alone Z fp' l → Q v H'
  | .exc x ds => ExcA K T W Z x ds
  | .bad => False
def tCl (K : PySem.W.Frag) (T : Tb) (W : XK) (G : Gl) (Z : Fz) (c : Cl) (as : List Ag) : TE := fun σ H Q => ∃ F st fp, FrZ K T Z F H σ st fp ∧ outC K T W Z F σ (callA G c as st) Q
theorem c_fn (c : Cap T M G lim k N sc W X) {f : Nat} {i : FnI} {as : List Ag} {z : Expr} {zs : List Expr} {n : Str} {p : Pos} (hf : f < lim) (hi : M.fn[f]? = some i) (ht : i.top = true) (hko : i.kwo = false) (hn : i.name = n) (hr : i.refs = posA as 0) (nd : (lentOf as).Nodup) (hl : i.np = as.length) (h2 : gloB sc n = true) (h3 : (!dbg n) = true)
    (hz : notStar z = true) (hpl : ∀ pos, (backTo pos (starEach zs X.env)).any (·.1) = false) (h : PA X (z :: zs) (tAs X.K T W G as)) : PE X (.Call (.Name n p) (z :: zs) [] pos) (tCl X.K T W G Z (.fn f) as) := by
  obtain ⟨fd, ps, bd, FO⟩ := c.fn f i hi hko hf
  obtain ⟨m1, kp⟩ := c.gfn f i hi ht
  rw [hn] at m1
  refine PE_imp (pe_call FO (c.room.mono (Nat.le_succ k)) (c.glo n h2) m1 kp bd .nil c.wish h (dbg_of h3).1 (starEach_c hz) (hpl pos)) fun σ H Q h => ?_
  obtain ⟨F, st, fp, fr, g⟩ := h
  refine ⟨F, st, fr.sub, fr.rep.srel, ?_⟩
  unfold callA at g
  cases q : evA G as st with
  | bad => rw [q] at g; exact g.elim
  | exc y ds => rw [q] at g; exact excA_W fr g
  | ok os =>
    rw [q] at g
    simp only [Rs.then] at g
    intro vs F1 H1 x1 av
    have f1 := fr.ext x1
    obtain ⟨fpa, ro, hfp⟩ := args_rep f1.rep nd q av
    have own : ∀ a ∈ fpa, a ∈ Z.fp ∨ Z.H a = none := fun a ha => by
      obtain ⟨i, _, hi⟩ := hfp a ha
      exact f1.own i a hi
    rw [List.append_nil]
    refine ⟨F1, os, fpa, x1.fh, ro, by rw [evA_len q, hl], ?_⟩
    cases qq : G.fs f os with
    | bad => rw [qq] at g; exact g.elim
    | exc x ds =>
      rw [qq] at g
      exact fun F' H' d fs A => g F' H' d fs (f1.aft.trans A own)
    | ok r =>
      obtain ⟨r, os'⟩ := r
      rw [qq] at g
      simp only at g
      cases hb : backA as os' st with
      | none => rw [hb] at g; exact g.elim
      | some st' =>
        rw [hb] at g
        intro v F' H' l fr' A rr ro' dl hnew
        have li : Lined σ (lentOf as) (i.refs.map fun j => vs.getD j .non) := by
          rw [hr]
          exact lined_of (us := vs) (suf := []) (pre := []) av (by rw [List.append_nil]; rfl)
        obtain ⟨fp', f', al⟩ := call_core f1 nd hfp A hb ro' li dl hnew
        exact g v F' H' fp' l (x1.ff.trans A.ff) f' rr al
theorem c_mk (c : Cap T M G lim k N sc W X) {d f : Nat} {i : ClI} {j : FnI} {as : List Ag} {z : Expr} {zs : List Expr} {n : Str} {p : Pos} (hf : f < lim) (hi : M.cls[d]? = some i) (hj : M.fn[f]? = some j) (hko : j.kwo = false) (hn : i.name = n) (hin : f ∈ i.init) (hr : j.refs = 0 :: posA as 1) (nd : (lentOf as).Nodup) (hl : j.np = as.length + 1)
    (h2 : gloB sc n = true) (h3 : (!dbg n) = true) (hz : notStar z = true) (hpl : ∀ pos, (backTo pos (starEach zs X.env)).any (·.1) = false) (h : PA X (z :: zs) (tAs X.K T W G as)) : PE X (.Call (.Name n p) (z :: zs) [] pos) (tCl X.K T W G Z (.mk d f) as) := by
  obtain ⟨fd, ps, bd, FO⟩ := c.fn f j hj hko hf
  obtain ⟨m1, mk⟩ := c.made d i hi
  rw [hn] at m1
  have mk := mk f hin
  refine PE_imp (pe_make mk FO c.room (c.glo n h2) m1 bd .nil c.wish h (dbg_of h3).1 (starEach_c hz) (hpl pos)) fun σ H Q h => ?_
  obtain ⟨F, st, fp, fr, g⟩ := h
  refine ⟨F, st, fr.sub, fr.rep.srel, ?_⟩
  unfold callA at g
  cases q : evA G as st with
  | bad => rw [q] at g; exact g.elim
  | exc y ds => rw [q] at g; exact excA_W fr g
  | ok os =>
    rw [q] at g
    simp only [Rs.then] at g
    intro vs F1 H1 x1 av qa dx hq hdx hne
    have f1 := fr.ext x1
    obtain ⟨fpa, ro, hfp⟩ := args_rep f1.rep nd q av
    have own : ∀ a ∈ fpa, a ∈ Z.fp ∨ Z.H a = none := fun a ha => by
      obtain ⟨i, _, hi⟩ := hfp a ha
      exact f1.own i a hi
    have hF2 : F1 qa = none := x1.fh.free hq
    have s12 : Same H1 (upd (upd H1 dx (.own qa)) qa (.ins (T.cls d) dx [])) := fun b o e => by
      rw [upd_ne (ne_of_none e hq), upd_ne (ne_of_none e hdx)]
      exact e
    have hqa : qa ∉ fpa := fun z => by
      obtain ⟨i, _, hi⟩ := hfp qa z
      obtain ⟨_, u, hu⟩ := f1.rep.dom i qa hi
      rw [hq] at hu
      cases hu
    rw [List.append_nil]
    refine ⟨F1, .ins d [] [] :: os, [qa] ++ fpa, x1.fh.trans s12, ⟨.ref qa, vs, [qa], fpa, rfl, ⟨qa, dx, [], [], rfl, upd_same, hF2, rfl, (fun _ z => nomatch z), ⟨rfl, rfl⟩, (fun z => nomatch z), rfl⟩,
      RepOs.mono (Same.refl _) _ _ _ ro ⟨fun a _ o e => s12 a o e, fun a ha => (RepOs.dom _ _ _ ro a ha).1⟩, (fun a ha z => hqa (by rw [← List.mem_singleton.mp ha]; exact z)), rfl⟩, by rw [List.length_cons, evA_len q, hl], ?_⟩
    have aft : ∀ {F' H'}, After F1 (upd (upd H1 dx (.own qa)) qa (.ins (T.cls d) dx [])) ([qa] ++ fpa) F' H' → After F1 H1 fpa F' H' := fun {F' H'} A => by
      refine ⟨A.ff, A.fh, fun a o e n => A.keep a o (s12 a o e) fun z => ?_, fun a o e n => ?_⟩
      · rcases List.mem_append.mp z with z | z
        · rw [List.mem_singleton.mp z, hq] at e
          cases e
        · exact n z
      · rcases A.nw a o e n with z | z
        · rcases List.mem_append.mp z with z | z
          · exact .inr (by rw [List.mem_singleton.mp z]; exact hq)
          · exact .inl z
        · exact .inr (s12.free z)
    have hn' : ∀ a, (a ∈ [qa] ++ fpa ∨ upd (upd H1 dx (.own qa)) qa (.ins (T.cls d) dx []) a = none) → a ∈ fpa ∨ H1 a = none := fun a z => by
      rcases z with z | z
      · rcases List.mem_append.mp z with z | z
        · exact .inr (by rw [List.mem_singleton.mp z]; exact hq)
        · exact .inl z
      · exact .inr (s12.free z)
    cases qq : G.fs f (.ins d [] [] :: os) with
    | bad => rw [qq] at g; exact g.elim
    | exc x ds =>
      rw [qq] at g
      exact fun F' H' d fs A => g F' H' d fs (f1.aft.trans (aft A) own)
    | ok r =>
      obtain ⟨r, os'⟩ := r
      rw [qq] at g
      simp only at g
      intro v F' H' l fr' A rr ro' dl hnew
      split at g
      · rename_i o os2 e1
        cases e1
        cases hb : backA as os2 st with
        | none => rw [hb] at g; exact g.elim
        | some st' =>
          rw [hb] at g
          refine ⟨rr.1, ?_⟩
          rw [hr] at ro'
          obtain ⟨v', r', g1, g2, ev', a1, a2, a3, a4⟩ := ro'
          simp only [List.map_cons, List.cons.injEq] at ev'
          obtain ⟨ev1, ev2⟩ := ev'
          have li : Lined σ (lentOf as) r' := by
            rw [← ev2]
            exact lined_of (us := .ref qa :: vs) (suf := []) (pre := [.ref qa]) av (by rw [List.append_nil]; rfl)
          subst a4
          obtain ⟨fp', f', al⟩ := call_core (l := g1) f1 nd hfp (aft A) hb a2 li a3 fun a ha => hn' a (hnew a (.inr (List.mem_append.mpr ha)))
          rw [show V.ref qa = v' from ev1]
          exact g v' F' H' fp' g1 (x1.ff.trans A.ff) f' a1 al
      · exact g.elim
/-! ### a call with keywords -/
/-- each value with what it owns -/
theorem RepOs.each' {F H : Hp} : ∀ {os : List O} {vs : List V} {l : List Addr}, RepOs K T F H os vs l → ∃ fn : Nat → List Addr, (∀ i o, os[i]? = some o → ∃ v, vs[i]? = some v ∧ RepO K T F H o v (fn i)) ∧ (∀ i j a, a ∈ fn i → a ∈ fn j → i = j) ∧ ∀ i a, a ∈ fn i → a ∈ l
  | [], vs, l, r => ⟨fun _ => [], (fun i o e => by simp at e), (fun _ _ _ z => nomatch z), fun _ _ z => nomatch z⟩
  | o :: os, vs, l, r => by
    obtain ⟨v, w, f1, f2, e, h1, h2, h3, h4⟩ := r
    subst e h4
    obtain ⟨fn, g1, g2, g3⟩ := RepOs.each' h2
    refine ⟨fun i => match i with | 0 => f1 | i + 1 => fn i, fun i o' e => ?_, fun i j a hi hj => ?_, fun i a hi => ?_⟩
    · cases i with
      | zero =>
        obtain rfl : o = o' := by simpa using e
        exact ⟨v, rfl, h1⟩
      | succ i =>
        obtain ⟨v', e1, q⟩ := g1 i o' (by simpa using e)
        exact ⟨v', by simpa using e1, q⟩
    · cases i with
      | zero =>
        cases j with
        | zero => rfl
        | succ j => exact absurd (g3 j a hj) (h3 a hi)
      | succ i =>
        cases j with
        | zero => exact absurd (g3 i a hi) (h3 a hj)
        | succ j => rw [g2 i j a hi hj]
    · cases i with
      | zero => exact List.mem_append_left _ hi
      | succ i => exact List.mem_append_right _ (g3 i a hi)
theorem pick_map {α : Type} {d : α} : ∀ {pl : List Nat} {l : List α}, (∀ q ∈ pl, q < l.length) → pick pl l = pl.map fun i => l.getD i d
  | [], l, _ => rfl
  | q :: pl, l, h => by
    have hq := h q List.mem_cons_self
    unfold pick
    rw [List.filterMap_cons, List.getElem?_eq_getElem hq, List.map_cons, List.getD_eq_getElem?_getD, List.getElem?_eq_getElem hq]
    exact congrArg _ (pick_map fun x hx => h x (List.mem_cons_of_mem _ hx))
theorem pick_rep {F H : Hp} {os : List O} {vs : List V} {l : List Addr} (r : RepOs K T F H os vs l) : ∀ {pl : List Nat}, pl.Nodup → (∀ q ∈ pl, q < os.length) → ∃ l', RepOs K T F H (pick pl os) (pick pl vs) l' ∧ ∀ a ∈ l', a ∈ l := by
  obtain ⟨fn, g1, g2, g3⟩ := r.each'
  have main : ∀ {pl : List Nat}, pl.Nodup → (∀ q ∈ pl, q < os.length) → ∃ l', RepOs K T F H (pick pl os) (pick pl vs) l' ∧ ∀ a ∈ l', ∃ q ∈ pl, a ∈ fn q := by
    intro pl
    induction pl with
    | nil => exact fun _ _ => ⟨[], ⟨rfl, rfl⟩, fun _ z => nomatch z⟩
    | cons q pl ih =>
      intro nd h
      have nd' := List.nodup_cons.mp nd
      obtain ⟨l', r', s'⟩ := ih nd'.2 fun x hx => h x (List.mem_cons_of_mem _ hx)
      have hq := h q List.mem_cons_self
      obtain ⟨v, e1, q1⟩ := g1 q _ (List.getElem?_eq_getElem hq)
      have e2 : pick (q :: pl) os = os[q] :: pick pl os := by unfold pick; rw [List.filterMap_cons, List.getElem?_eq_getElem hq]
      have e3 : pick (q :: pl) vs = v :: pick pl vs := by unfold pick; rw [List.filterMap_cons, e1]
      rw [e2, e3]
      refine ⟨fn q ++ l', ⟨v, _, fn q, l', rfl, q1, r', fun a ha z => ?_, rfl⟩, fun a ha => ?_⟩
      · obtain ⟨x, hx, y⟩ := s' a z
        obtain rfl := g2 q x a ha y
        exact nd'.1 hx
      · rcases List.mem_append.mp ha with z | z
        · exact ⟨q, List.mem_cons_self, z⟩
        · obtain ⟨x, hx, y⟩ := s' a z
          exact ⟨x, List.mem_cons_of_mem _ hx, y⟩
  intro pl nd h
  obtain ⟨l', r', s'⟩ := main nd h
  exact ⟨l', r', fun a ha => by
    obtain ⟨q, _, y⟩ := s' a ha
    exact g3 q a y⟩
theorem After.wide {F H F' H' : Hp} {l m : List Addr} (x : After F H l F' H') (h : ∀ a ∈ l, a ∈ m) : After F H m F' H' := ⟨x.ff, x.fh, fun a o e n => x.keep a o e fun z => n (h a z), fun a o e n => (x.nw a o e n).imp_left (h a)⟩
theorem evA_app {st : Ml.St} {bs : List Ag} : ∀ {as : List Ag}, evA G (as ++ bs) st = (evA G as st).then fun o1 => (evA G bs st).then fun o2 => .ok (o1 ++ o2)
  | [] => by
    show evA G bs st = (Rs.ok []).then _
    simp only [Rs.then, List.nil_append]
    cases evA G bs st <;> rfl
  | .r i :: as => by
    simp only [List.cons_append, evA]
    split
    · rw [evA_app (as := as)]
      cases evA G as st with
      | ok o1 =>
        simp only [Rs.then]
        cases evA G bs st <;> rfl
      | exc _ _ => rfl
      | bad => rfl
    · rfl
  | .e c :: as => by
    simp only [List.cons_append, evA]
    cases ev G c st with
    | ok r =>
      simp only [Rs.then]
      split
      · rw [evA_app (as := as)]
        cases evA G as st with
        | ok o1 =>
          simp only [Rs.then]
          cases evA G bs st <;> rfl
        | exc _ _ => rfl
        | bad => rfl
      · rfl
    | exc _ _ => rfl
    | bad => rfl
theorem ArgV.len {F : Hp} {σ : L2.St} : ∀ {as : List Ag} {os : List O} {vs : List V}, ArgV K T F σ as os vs → os.length = as.length ∧ vs.length = as.length
  | [], _, _, h => by rw [h.1, h.2]; exact ⟨rfl, rfl⟩
  | .r i :: as, _, _, h => by
    obtain ⟨o, os', v, vs', rfl, rfl, _, h⟩ := h
    exact ⟨congrArg Nat.succ h.len.1, congrArg Nat.succ h.len.2⟩
  | .e c :: as, _, _, h => by
    obtain ⟨o, os', v, vs', rfl, rfl, _, h⟩ := h
    exact ⟨congrArg Nat.succ h.len.1, congrArg Nat.succ h.len.2⟩
theorem ArgV.app {F F' : Hp} {σ : L2.St} {bs : List Ag} {ps : List O} {ws : List V} (s : Same F F') (g : ArgV K T F' σ bs ps ws) : ∀ {as : List Ag} {os : List O} {vs : List V}, ArgV K T F σ as os vs → ArgV K T F' σ (as ++ bs) (os ++ ps) (vs ++ ws)
  | [], _, _, h => by rw [h.1, h.2]; exact g
  | .r i :: as, _, _, h => by
    obtain ⟨o, os', v, vs', rfl, rfl, e, h⟩ := h
    exact ⟨o, _, v, _, rfl, rfl, e, ArgV.app s g h⟩
  | .e c :: as, _, _, h => by
    obtain ⟨o, os', v, vs', rfl, rfl, e, h⟩ := h
    exact ⟨o, _, v, _, rfl, rfl, Rep.mono s _ _ e, ArgV.app s g h⟩
theorem pas_r (c : Cap T M G lim k N sc W X) {i : Nat} {n : Str} {p kp : Pos} {nm : Option Str} {as : List Ag} {es : List Keyword} (h1 : N[i]? = some n) (h2 : locB sc n = true) (h3 : (!dbg n) = true) (hr : PK X es (tAs X.K T W G as)) : PK X (⟨nm, .Name n p, kp⟩ :: es) (tAs X.K T W G (.r i :: as)) := by
  have h := pk_cons (nm := nm) (kpos := kp) (pe_var (i := i) (pos := p) (by rw [c.hN]; exact h1) (c.loc n h2) (dbg_of h3).1 (dbg_of h3).2) hr
  refine ⟨fun pos pins s σ H Q I q => h.run pos pins s σ H Q I ?_⟩
  obtain ⟨F, st, sub, rel, g⟩ := q
  simp only [evA] at g
  split at g
  · rename_i o ho
    obtain ⟨v, e1, s⟩ := rel.at_ i o ho
    refine ⟨v, e1, F, st, sub, rel, ?_⟩
    cases q : evA G as st with
    | bad => rw [q] at g; exact g
    | exc y ds => rw [q] at g; exact g
    | ok os =>
      rw [q] at g
      simp only [Rs.then] at g
      exact fun vs F3 H3 x3 av => g (v :: vs) F3 H3 x3 ⟨o, os, v, vs, rfl, rfl, e1, av⟩
  · exact g.elim
theorem pas_nil : PK X [] (tAs X.K T W G []) := ⟨fun pos pins s σ H Q I q => pk_nil.run pos pins s σ H Q I (by
  obtain ⟨F, st, sub, rel, g⟩ := q
  exact g [] F H (Ext.refl sub) ⟨rfl, rfl⟩)⟩
theorem pas_e {c : E} {kp : Pos} {nm : Option Str} {as : List Ag} {es : List Keyword} (ha : PE X x (tE X.K T W G c)) (hr : PK X es (tAs X.K T W G as)) : PK X (⟨nm, x, kp⟩ :: es) (tAs X.K T W G (.e c :: as)) := by
  have h := pk_cons (nm := nm) (kpos := kp) ha hr
  refine ⟨fun pos pins s σ H Q I q => h.run pos pins s σ H Q I ?_⟩
  obtain ⟨F, st, sub, rel, g⟩ := q
  simp only [evA] at g
  refine then_E sub rel g fun r v F1 H1 _ x1 r1 rel1 h1 => ?_
  cases hd : r.toD with
  | none => simp only [hd] at h1; exact h1.elim
  | some d =>
    simp only [hd] at h1
    obtain ⟨F2, x2, s2, rd⟩ := RepR.frozen x1 hd r1
    refine ⟨F2, st, x2.fh, rel.ext x2, ?_⟩
    cases e1 : evA G as st with
    | bad => rw [e1] at h1; exact h1
    | exc y ds => rw [e1] at h1; exact ExcW.ext x2 h1
    | ok os =>
      rw [e1] at h1
      simp only [Rs.then] at h1
      exact fun vs F3 H3 x3 av => h1 (v :: vs) F3 H3 (x2.trans x3) ⟨d, os, v, vs, rfl, rfl, Rep.mono x3.ff d v rd, av⟩
/-! ### statements that call -/
theorem s_call0 {cl : Cl} {as : List Ag} {fr : Bool} (hs : notLc e = true) (h : PE X e (tCl X.K T W G Z cl as)) : PS X (.Expr e pos) (tS X.K T W G Z (.callr none fr cl as)) := by
  refine PS_imp (ps_expr h (swaps_no hs)) fun D σ H h => ?_
  obtain ⟨F, st, fp, f, g⟩ := h
  refine ⟨F, st, fp, f, ?_⟩
  simp only [exec] at g
  cases q : callA G cl as st with
  | bad => rw [q] at g; exact g
  | exc x ds => rw [q] at g; exact g
  | ok r =>
    rw [q] at g
    exact fun v F' H' fp' l s f' rr al => g F' H' σ fp' s f'
theorem s_retC {cl : Cl} {as : List Ag} (h : PE X e (tCl X.K T W G Z cl as)) : PS X (.Return (some e) pos) (tS X.K T W G Z (.retC cl as)) := by
  refine PS_imp (ps_ret h) fun D σ H h => ?_
  obtain ⟨F, st, fp, f, g⟩ := h
  refine ⟨F, st, fp, f, ?_⟩
  simp only [exec] at g
  cases q : callA G cl as st with
  | bad => rw [q] at g; exact g
  | exc x ds => rw [q] at g; exact g
  | ok r =>
    rw [q] at g
    exact fun v F' H' fp' l s f' rr al => g F' H' σ fp' v l s f' rr al
/-- an answer is stored -/
theorem Fr.setA {F H : Hp} {σ : L2.St} {st : Ml.St} {fp : Nat → List Addr} {i : Nat} {o : O} {v : V} {l : List Addr} (f : FrZ K T Z F H σ st fp) (hr : i ∉ Z.refs) (q : RepO K T F H o v l) (al : Alone Z fp l) : FrZ K T Z F H (σ.set i (some v)) (st.set i (some o)) (upN fp i l) := by
  refine ⟨f.aft, f.rep.set q fun a ha j _ y => (al a ha).1 j y, upN_own f.own fun a ha => (al a ha).2, fun j hj => ?_⟩
  rw [List.getElem?_set_ne fun z => hr (by rw [z]; exact hj)]
  exact f.ref j hj
/-- an answer is frozen -/
theorem Fr.frzA {F H : Hp} {σ : L2.St} {st : Ml.St} {fp : Nat → List Addr} {o : O} {v : V} {l : List Addr} (f : FrZ K T Z F H σ st fp) (q : RepO K T F H o v l) (al : Alone Z fp l) : ∃ F1, Same F F1 ∧ FrZ K T Z F1 H σ st fp ∧ Rep K T F1 o.d v := by
  have s1 : Same F (frz F H l) := frz_same fun a ha => (RepO.dom o v l q a ha).1
  have s2 : Same (frz F H l) H := frz_le f.sub
  have nof : ∀ j, ∀ a ∈ fp j, frz F H l a = none := fun j a ha => by
    rw [frz_out fun z => (al a z).1 j ha]
    exact (f.rep.dom j a ha).1
  refine ⟨_, s1, ⟨f.aft.trans (f1 := l) ⟨s1, s2, fun a o e _ => e, fun a u e n => ?_⟩ fun a ha => (al a ha).2, ⟨f.rep.len, fun i o e => ?_, f.rep.dis, fun i a ha => ⟨nof i a ha, (f.rep.dom i a ha).2⟩⟩, f.own, f.ref⟩, RepO.freeze s1 o v l q fun a ha u hu => by rw [frz_in ha]; exact hu⟩
  · by_cases z : a ∈ l
    · exact .inl z
    · rw [frz_out z, n] at e
      cases e
  · obtain ⟨v, e1, q⟩ := f.rep.at_ i o e
    exact ⟨v, e1, RepO.mono s1 o v _ q (Stay.refl (nof i))⟩
theorem s_call1 {cl : Cl} {as : List Ag} {fr : Bool} {i : Nat} {n : Str} {py : Pos} (hr : i ∉ Z.refs) (h : PS X (.Assign [.Name n py] e pos) (tAsg (tCl X.K T W G Z cl as) (gName i))) : PS X (.Assign [.Name n py] e pos) (tS X.K T W G Z (.callr (some i) fr cl as)) := by
  refine PS_imp h fun D σ H h => ?_
  obtain ⟨F, st, fp, f, g⟩ := h
  refine ⟨F, st, fp, f, ?_⟩
  simp only [exec] at g
  cases q : callA G cl as st with
  | bad => rw [q] at g; exact g
  | exc x ds => rw [q] at g; exact g
  | ok r =>
    rw [q] at g
    intro v F' H' fp' l s f' rr al
    cases fr with
    | false => exact g F' H' _ _ s (Fr.setA f' hr rr al)
    | true =>
      obtain ⟨F1, s1, f1, rd⟩ := Fr.frzA f' rr al
      exact g F1 H' _ _ (s.trans s1) (Fr.setA (l := []) f1 hr ⟨rd, rfl⟩ fun _ z => nomatch z)
end
end Ml

set_option Elab.async false
set_option linter.all false
set_option maxRecDepth 100000
set_option maxHeartbeats 4000000
/-! MA: calls with keywords; a field takes a call's answer; each list of a list grows. -/
namespace Ml
open PySem PySem.Spec PyProof.Rows L2
section
variable {T : Tb} {M : Gm} {G : Gl} {lim k : Nat} {N : List Str} {sc : Scope} {W : XK} {X : Cx} {Z : Fz} {a b : E} {x y e : Expr} {pos : Pos} {K : PySem.W.Frag}
theorem getD_map_ix {l : List V} {pl : List Nat} {q : Nat} (h : q ∈ pl) : (pl.map fun i => l.getD i .non).getD (pl.idxOf q) .non = l.getD q .non := by
  have hi := List.idxOf_lt_length_of_mem h
  rw [List.getD_eq_getElem?_getD, List.getElem?_map, List.getElem?_eq_getElem hi, List.getElem_idxOf]
  rfl
theorem posA_shift : ∀ {as : List Ag} {n : Nat}, ∀ q ∈ posA as n, n ≤ q ∧ q < n + as.length
  | [], _, q, h => nomatch h
  | .r i :: as, n, q, h => by
    rcases List.mem_cons.mp h with z | z
    · rw [z, List.length_cons]; omega
    · have := posA_shift (as := as) q z
      rw [List.length_cons]; omega
  | .e c :: as, n, q, h => by
    have := posA_shift (as := as) q h
    rw [List.length_cons]; omega
theorem c_kw (c : Cap T M G lim k N sc W X) {d m : Nat} {κ : Kw} {i : ClI} {j : FnI} {as : List Ag} {z : Expr} {zs : List Expr} {kws : List Keyword} {n : Str} {p : Pos} (hm : M.kw[m]? = some κ) (hf : κ.f < lim) (hi : M.cls[d]? = some i) (hj : M.fn[κ.f]? = some j) (hn : i.name = n) (hin : κ.f ∈ i.init)
    (hpn : κ.pl.Nodup) (hb : ∀ q ∈ κ.pl, q < 1 + as.length + κ.ds.length) (h0 : 0 ∈ κ.pl) (hr : j.refs = (0 :: posA as 1).map fun q => κ.pl.idxOf q) (hin2 : ∀ q ∈ posA as 1, q ∈ κ.pl) (hid : κ.pl.idxOf 0 = 0) (nd : (lentOf as).Nodup) (hl : j.np = κ.pl.length)
    (h2 : gloB sc n = true) (h3 : (!dbg n) = true) (hz : notStar z = true) (l1 : (as.take κ.n).length = κ.n) (l2 : (as.drop κ.n).length = κ.ks.length) (h : PA X (z :: zs) (tAs X.K T W G (as.take κ.n))) (hk : PK X kws (tAs X.K T W G (as.drop κ.n)))
    (hall : (backToKw pos (keywordEach kws X.env)).all (·.1.isSome) = true) (hks : (backToKw pos (keywordEach kws X.env)).filterMap (·.1) = κ.ks)
    (hpl : ((backTo pos (starEach (z :: zs) X.env)).any (·.1) || (backToKw pos (keywordEach kws X.env)).any (·.1.isNone)) = false) : PE X (.Call (.Name n p) (z :: zs) kws pos) (tCl X.K T W G Z (.kw d m) as) := by
  obtain ⟨fd, ps, mv, dvs, kb, hds, FO⟩ := c.kw m κ j hm hj hf
  obtain ⟨m1, mk⟩ := c.made d i hi
  rw [hn] at m1
  have mk := mk κ.f hin
  refine PE_imp (pe_makeK mk FO c.room (c.glo n h2) m1 kb c.wish h hk hall hks (dbg_of h3).1 (starEach_c hz) hpl) fun σ H Q hh => ?_
  obtain ⟨F, st, fp, fr, g⟩ := hh
  refine ⟨F, st, fr.sub, fr.rep.srel, ?_⟩
  unfold callA at g
  have spl : evA G as st = (evA G (as.take κ.n) st).then fun o1 => (evA G (as.drop κ.n) st).then fun o2 => .ok (o1 ++ o2) := by
    rw [← evA_app, List.take_append_drop]
  cases q1 : evA G (as.take κ.n) st with
  | bad => rw [spl, q1] at g; exact g.elim
  | exc y ds => rw [spl, q1] at g; exact excA_W fr g
  | ok os1 =>
    intro vs F1 H1 x1 av1
    refine ⟨F1, st, x1.fh, fr.rep.srel.ext x1, ?_⟩
    cases q2 : evA G (as.drop κ.n) st with
    | bad => rw [spl, q1, q2] at g; exact g.elim
    | exc y ds =>
      rw [spl, q1, q2] at g
      exact ExcW.ext x1 (excA_W fr g)
    | ok os2 =>
      have q : evA G as st = .ok (os1 ++ os2) := by rw [spl, q1, q2]; rfl
      rw [q] at g
      simp only [Rs.then, c.kwE, hm] at g
      intro zs' F2 H2 x2 av2
      have lv := av1.len
      have lz := av2.len
      refine ⟨by rw [lv.2, l1], by rw [lz.2, l2], fun qa dx hq hdx hne => ?_⟩
      have x12 := x1.trans x2
      have f2 := fr.ext x12
      have av : ArgV X.K T F2 σ as (os1 ++ os2) (vs ++ zs') := by
        have := ArgV.app x2.ff av2 av1
        rw [List.take_append_drop] at this
        exact this
      have lav := av.len
      obtain ⟨fpa, ro, hfp⟩ := args_rep f2.rep nd q av
      have own : ∀ a ∈ fpa, a ∈ Z.fp ∨ Z.H a = none := fun a ha => by
        obtain ⟨i, _, hi⟩ := hfp a ha
        exact f2.own i a hi
      have hF2 : F2 qa = none := x12.fh.free hq
      have s12 : Same H2 (upd (upd H2 dx (.own qa)) qa (.ins (T.cls d) dx [])) := fun b o e => by
        rw [upd_ne (ne_of_none e hq), upd_ne (ne_of_none e hdx)]
        exact e
      have hqa : qa ∉ fpa := fun z => by
        obtain ⟨i, _, hi⟩ := hfp qa z
        obtain ⟨_, u, hu⟩ := f2.rep.dom i qa hi
        rw [hq] at hu
        cases hu
      have rds : RepOs X.K T F2 (upd (upd H2 dx (.own qa)) qa (.ins (T.cls d) dx [])) (κ.ds.map .fz) dvs [] := RepOs.of_reps (hds F2)
      have ro2 : RepOs X.K T F2 (upd (upd H2 dx (.own qa)) qa (.ins (T.cls d) dx [])) (os1 ++ os2) (vs ++ zs') fpa := RepOs.mono (Same.refl _) _ _ _ ro ⟨fun a _ o e => s12 a o e, fun a ha => (RepOs.dom _ _ _ ro a ha).1⟩
      have rfull : RepOs X.K T F2 (upd (upd H2 dx (.own qa)) qa (.ins (T.cls d) dx [])) (.ins d [] [] :: ((os1 ++ os2) ++ κ.ds.map .fz)) (.ref qa :: ((vs ++ zs') ++ dvs)) ([qa] ++ (fpa ++ [])) :=
        ⟨.ref qa, _, [qa], fpa ++ [], rfl, ⟨qa, dx, [], [], rfl, upd_same, hF2, rfl, (fun _ z => nomatch z), ⟨rfl, rfl⟩, (fun z => nomatch z), rfl⟩, RepOs.append ro2 rds (fun _ _ z => nomatch z), (fun a ha z => hqa (by
          rw [← List.mem_singleton.mp ha]
          rw [List.append_nil] at z
          exact z)), rfl⟩
      have hlen : (O.ins d [] [] :: ((os1 ++ os2) ++ κ.ds.map .fz)).length = 1 + as.length + κ.ds.length := by
        rw [List.length_cons, List.length_append, lav.1, List.length_map]; omega
      have hb' : ∀ q ∈ κ.pl, q < (O.ins d [] [] :: ((os1 ++ os2) ++ κ.ds.map .fz)).length := fun q hq => by rw [hlen]; exact hb q hq
      obtain ⟨l', rp, sl'⟩ := pick_rep rfull hpn hb'
      have lfull := rfull.length
      have hbv : ∀ q ∈ κ.pl, q < (V.ref qa :: ((vs ++ zs') ++ dvs)).length := fun q hq => by rw [lfull]; exact hb' q hq
      have egV : pick κ.pl ((V.ref qa :: vs) ++ (zs' ++ dvs)) = pick κ.pl (V.ref qa :: ((vs ++ zs') ++ dvs)) := by rw [List.cons_append, List.append_assoc]
      have epm := pick_map (d := V.non) hbv
      have epo := pick_map (d := O.fz .non) hb'
      show spM X.K T j (G.fs κ.f) (pick κ.pl ((V.ref qa :: vs) ++ (zs' ++ dvs))) _ _ _
      rw [egV]
      have sub2 : ∀ a ∈ l', a ∈ [qa] ++ fpa := fun a ha => by
        have := sl' a ha
        rw [List.append_nil] at this
        exact this
      refine ⟨F2, _, l', x12.fh.trans s12, rp, by rw [epo, List.length_map, hl], ?_⟩
      have aft : ∀ {F' H'}, After F2 (upd (upd H2 dx (.own qa)) qa (.ins (T.cls d) dx [])) l' F' H' → After F2 H2 fpa F' H' := fun {F' H'} A0 => by
        have A := A0.wide sub2
        refine ⟨A.ff, A.fh, fun a o e n => A.keep a o (s12 a o e) fun z => ?_, fun a o e n => ?_⟩
        · rcases List.mem_append.mp z with z | z
          · rw [List.mem_singleton.mp z, hq] at e
            cases e
          · exact n z
        · rcases A.nw a o e n with z | z
          · rcases List.mem_append.mp z with z | z
            · exact .inr (by rw [List.mem_singleton.mp z]; exact hq)
            · exact .inl z
          · exact .inr (s12.free z)
      have hn' : ∀ a, (a ∈ l' ∨ upd (upd H2 dx (.own qa)) qa (.ins (T.cls d) dx []) a = none) → a ∈ fpa ∨ H2 a = none := fun a z => by
        rcases z with z | z
        · rcases List.mem_append.mp (sub2 a z) with z | z
          · exact .inr (by rw [List.mem_singleton.mp z]; exact hq)
          · exact .inl z
        · exact .inr (s12.free z)
      have eqf : pick κ.pl (O.ins d [] [] :: ((os1 ++ os2) ++ κ.ds.map .fz)) = pick κ.pl (.ins d [] [] :: ((os1 ++ os2) ++ κ.ds.map .fz)) := rfl
      cases qq : G.fs κ.f (pick κ.pl (.ins d [] [] :: ((os1 ++ os2) ++ κ.ds.map .fz))) with
      | bad => rw [qq] at g; exact g.elim
      | exc x ds =>
        rw [qq] at g
        exact fun F' H' d fs A => g F' H' d fs (f2.aft.trans (aft A) own)
      | ok r =>
        obtain ⟨r, os'⟩ := r
        rw [qq] at g
        simp only at g
        intro v F' H' l fr' A rr ro' dl hnew
        split at g
        · rename_i o os2' e1
          cases e1
          cases hbk : backA as os2' st with
          | none => rw [hbk] at g; exact g.elim
          | some st' =>
            rw [hbk] at g
            refine ⟨rr.1, ?_⟩
            have erefs : (j.refs.map fun t => (pick κ.pl (V.ref qa :: ((vs ++ zs') ++ dvs))).getD t .non) = V.ref qa :: (posA as 1).map fun t => (V.ref qa :: ((vs ++ zs') ++ dvs)).getD t .non := by
              rw [hr, epm, List.map_map, List.map_cons]
              congr 1
              · exact getD_map_ix h0
              · exact List.map_congr_left fun t ht => getD_map_ix (hin2 t ht)
            rw [erefs] at ro'
            obtain ⟨v', r', g1, g2, ev', a1, a2, a3, a4⟩ := ro'
            simp only [List.cons.injEq] at ev'
            obtain ⟨ev1, ev2⟩ := ev'
            have li : Lined σ (lentOf as) r' := by
              rw [← ev2]
              exact lined_of (us := .ref qa :: ((vs ++ zs') ++ dvs)) (suf := dvs) (pre := [.ref qa]) av rfl
            subst a4
            obtain ⟨fp', f', al⟩ := call_core (l := g1) f2 nd hfp (aft A) hbk a2 li a3 fun a ha => hn' a (hnew a (.inr (List.mem_append.mpr ha)))
            rw [show V.ref qa = v' from ev1]
            exact g v' F' H' fp' g1 (x12.ff.trans A.ff) f' a1 al
        · exact g.elim

/-! ### a field takes a call's answer -/
theorem s_setC (c : Cap T M G lim k N sc W X) {i f : Nat} {cl : Cl} {as : List Ag} {n g : Str} {p tp : Pos} (hg : M.nms[f]? = some g) (h1 : N[i]? = some n) (h2 : locB sc n = true) (h3 : (!dbg n) = true) (he : PE X e (tCl X.K T W G Z cl as)) :
    PS X (.Assign [.Attribute (.Name n p) g tp] e pos) (tS X.K T W G Z (.setC i f cl as)) := by
  have hsw : swapsWith e (some (.Attribute (.Name n p) g tp)) pos.line X.env = pure false := by cases e <;> rfl
  refine PS_imp (ps_fld (pe_var (i := i) (by rw [c.hN]; exact h1) (c.loc n h2) (dbg_of h3).1 (dbg_of h3).2) he hsw) fun D σ H h => ?_
  obtain ⟨F, st, fp, fr, gg⟩ := h
  refine ⟨F, st, fp, fr, ?_⟩
  simp only [exec] at gg
  cases qc : callA G cl as st with
  | bad => rw [qc] at gg; exact gg
  | exc x ds => rw [qc] at gg; exact gg
  | ok r =>
    rw [qc] at gg
    intro v F1 H1 fp1 lo s1 f1 q al
    simp only [Rs.out] at gg
    split at gg
    · rename_i cc ns os hi
      split at gg
      · rename_i hcond
        obtain ⟨hcf, hlen, hsmall⟩ := hcond
        obtain ⟨v0, hv0, rep0⟩ := f1.rep.at_ i _ hi
        obtain ⟨pa, dx, fs, fq, e0, hpa, hfa, hfn, hb, ro, npa, efp⟩ := rep0
        subst e0
        obtain ⟨cls, na, hft⟩ := c.fl cc f hcf
        have hnm := c.nms f g hg
        have hout : ∀ a ∈ lo, ∀ j, a ∉ fp1 j := fun a ha j => (al a ha).1 j
        have pin : pa ∈ fp1 i := by rw [efp]; exact List.mem_cons_self
        have fqin : ∀ a ∈ fq, a ∈ fp1 i := fun a ha => by rw [efp]; exact List.mem_cons_of_mem _ ha
        obtain ⟨l', r', n', b', s'⟩ := put_rep c.inj hft q ro hfn hb fun a ha y => hout a ha i (fqin a y)
        have hfl : fs.length = ns.length := by
          have := congrArg List.length hfn
          simpa using this
        rw [hnm] at r' n'
        have npl : pa ∉ l' := fun z => by
          rcases s' pa z with y | y
          · exact hout pa y i pin
          · exact npa y
        refine ⟨.ref pa, hv0, pa, T.cls cc, dx, fs, rfl, hpa, cls, by rw [← hnm]; exact na, by omega, ?_⟩
        refine gg F1 _ σ _ s1 (f1.write (List.getElem?_eq_some_iff.mp hi).1 hv0 pin (l := pa :: l') ⟨pa, dx, _, l', rfl, upd_same, hfa, n', b', ?_, npl, rfl⟩ fun a ha => ?_)
        · exact RepOs.mono (Same.refl _) _ _ _ r' ⟨fun a ha u hu => by rw [upd_ne fun z => npl (by rw [← z]; exact ha)]; exact hu, fun a ha => (RepOs.dom _ _ _ r' a ha).1⟩
        · rcases List.mem_cons.mp ha with z | z
          · exact .inl (by rw [z]; exact pin)
          · rcases s' a z with y | y
            · exact .inr ⟨hout a y, (al a y).2⟩
            · exact .inl (fqin a y)
      · exact gg.elim
    · exact gg.elim
theorem few_c {env : Env} {es : List Expr} {p : Pos} (h : noStars es = true) (hl : es.length < 30) : ((backTo p (starEach es env)).all (fun x => !x.1) && (backToKw p (keywordEach [] env)).all (fun x => x.1.isSome)
      && decide (es.length + ([] : List Keyword).length + (if ([] : List Keyword).isEmpty then 0 else 1) < 30)) = true := by
  have e1 : (backTo p (starEach es env)).all (fun x => !x.1) = true := by
    rw [List.all_eq_not_any_not]
    have : (backTo p (starEach es env)).any (fun x => !(!x.1)) = (backTo p (starEach es env)).any (·.1) := by
      congr 1
      funext x
      exact Bool.not_not _
    rw [this, backTo_plain p h]
    rfl
  have e2 : (backToKw p (keywordEach [] env)).all (fun x => x.1.isSome) = true := rfl
  rw [e1, e2]
  simpa using hl
theorem bm_c {id : String} {an : Str} {r : V → List V → Hp → VK → Prop} {z : Expr} {zs : List Expr} {p1 p2 : Pos} (slot : Slot "list" an id) (hty : typeOf (.builtin id) = pure (.type "method_descriptor")) (hm : MtR X id r) (hb : notCall x = true) (hline : (p1.endLine == p2.line) = true)
    (hs : noStars (z :: zs) = true) (hl : zs.length < 20) {to : TE} {t : TA} (ho : PE X x to) (ha : PA X (z :: zs) t) : PE X (.Call (.Attribute x an p1) (z :: zs) [] p2) (tBM X.K "list" r to t) :=
  pe_bm F.plainAttrs_list slot hty hm ho ha (attrBase_c hb) (few_c hs (by rw [List.length_cons]; omega)) hline (starEach_c (Bool.and_eq_true_iff.mp hs).1) (backTo_plain p2 (Bool.and_eq_true_iff.mp hs).2)

/-! ### each list of a list grows -/
theorem appL_at {d : D} : ∀ {os ps : List O}, appL d os = some ps → ps.length = os.length ∧ ∀ (m : Nat) (o : O), os[m]? = some o → ∃ ys : List O, o = .lst ys ∧ ys.length < sizeLine ∧ ps[m]? = some (.lst (ys ++ [.fz d]))
  | [], ps, h => by
    cases h
    exact ⟨rfl, fun m o e => by simp at e⟩
  | o :: os, ps, h => by
    unfold appL at h
    split at h
    · rename_i p ps' h1 h2
      cases h
      obtain ⟨l, g⟩ := appL_at h2
      refine ⟨congrArg Nat.succ l, fun m o' e => ?_⟩
      cases m with
      | zero =>
        obtain rfl : o = o' := by simpa using e
        unfold appO at h1
        split at h1
        · split at h1
          · rename_i hz
            cases h1
            exact ⟨_, rfl, hz, rfl⟩
          · cases h1
        · cases h1
      | succ m =>
        obtain ⟨ys, e1, e2, e3⟩ := g m o' (by simpa using e)
        exact ⟨ys, e1, e2, by simpa using e3⟩
    · cases h
/-- a dead slot takes anything -/
theorem Fr.dead {F H : Hp} {σ : L2.St} {st : Ml.St} {fp : Nat → List Addr} {t : Nat} {v : Option V} (f : FrZ K T Z F H σ st fp) (hd : ∀ o, st[t]? ≠ some (some o)) (hr : t ∉ Z.refs) : FrZ K T Z F H (σ.set t v) st (upN fp t []) := by
  refine ⟨f.aft, f.rep.upd (Same.refl _) (fun j _ => Stay.refl fun a ha => (f.rep.dom j a ha).1) (by rw [List.length_set, f.rep.len]) (fun j z => List.getElem?_set_ne (Ne.symm z)) (fun j _ => rfl) (fun o e => absurd e (hd o)) (fun _ z => nomatch z) (fun _ z => nomatch z), upN_own f.own fun _ z => (nomatch z), fun j hj => ?_⟩
  rw [List.getElem?_set_ne fun z => hr (by rw [z]; exact hj)]
  exact f.ref j hj
theorem s_each (c : Cs T M G lim k N sc W X) {i t : Nat} {w : E} {ni nt : Str} {pi pt p1 p2 p3 p4 : Pos} (hi : N[i]? = some ni) (hi2 : locB sc ni = true) (hi3 : (!dbg ni) = true) (ht : N[t]? = some nt) (ht2 : stoB sc nt = true) (ht3 : (!dbg nt) = true) (ht4 : locB sc nt = true) (hr : t ∉ Z.refs)
    (he : PE X e (tE X.K T W G w)) (hs : notStar e = true) (hline : (p2.endLine == p3.line) = true) :
    PS X (.For (.Name nt pt) (.Name ni pi) [.Expr (.Call (.Attribute (.Name nt p1) "append" p2) [e] [] p3) p4] [] pos) (tS X.K T W G Z (.each i t w)) := by
  have pt' : PE X (.Name nt p1) (tVar t) := pe_var (i := t) (by rw [c.hN]; exact ht) (c.loc nt ht4) (dbg_of ht3).1 (dbg_of ht3).2
  have pi' : PE X (.Name ni pi) (tVar i) := pe_var (i := i) (by rw [c.hN]; exact hi) (c.loc ni hi2) (dbg_of hi3).1 (dbg_of hi3).2
  obtain ⟨l1, l2⟩ := c.sto nt ht2
  have pb : PE X (.Call (.Attribute (.Name nt p1) "append" p2) [e] [] p3) (tBM X.K "list" rAppend (tVar t) (tEs X.K T W G [w])) :=
    bm_c F.slot_list_append F.type_list_append mt_append rfl hline (by simp only [noStars, Bool.and_true]; exact hs) (by decide) pt' (es_cons hs he es_nil)
  refine PS_imp (ps_for c.own c.calm (pi_any pi') (pg_name (i := t) (by rw [c.hN]; exact c.nd) (by rw [c.hN]; exact ht) l1 l2) (pss_one (ps_expr pb (swaps_no rfl)))) fun D σ H h => ?_
  obtain ⟨F, st, fp, f, g⟩ := h
  simp only [exec] at g
  split at g
  · rename_i os hos
    split at g
    · exact g.elim
    · rename_i hc
      have hit : i ≠ t := fun z => hc (.inl z)
      have htl : t < st.length := by
        rcases Nat.lt_or_ge t st.length with z | z
        · exact z
        · exact absurd (.inr z) hc
      cases q1 : ev G w ((st.set t none).set i none) with
      | bad => rw [q1] at g; exact g.elim
      | exc _ _ => rw [q1] at g; exact g.elim
      | ok r =>
        rw [q1] at g
        simp only [Rs.calm, Rs.out] at g
        obtain ⟨d, hd, g⟩ := outS_opt g
        obtain ⟨ps, hps, g⟩ := outS_opt g
        obtain ⟨hpl, hpa⟩ := appL_at hps
        obtain ⟨v0, hv0, rep0⟩ := f.rep.at_ i _ hos
        obtain ⟨p, xs, fq, e0, hp, hfp, ro, np, efp⟩ := rep0
        subst e0
        have hxl := ro.length
        refine ⟨.ref p, hv0, .inl ⟨p, xs, rfl, .inl (.inl hp), fun j m σ' H' => m = os.length - j ∧ j ≤ os.length ∧ ∃ F' fp' os', Same F F' ∧ FrZ X.K T Z F' H' σ' ((st.set t none).set i (some (.lst os'))) fp' ∧ σ'[i]? = some (some (.ref p)) ∧ H' p = some (.lst xs) ∧ os'.length = os.length ∧
          (∀ m, m < j → os'[m]? = ps[m]?) ∧ ∀ m, j ≤ m → os'[m]? = os[m]?, ⟨os.length, rfl, Nat.zero_le _, F, upN fp t [], os, Same.refl _, ?_, hv0, hp, rfl, (fun m z => nomatch z), fun m _ => rfl⟩, ?_⟩⟩
        · have e1 : (st.set t none).set i (some (.lst os)) = st.set t none := set_same (by rw [List.getElem?_set_ne (Ne.symm hit)]; exact hos)
          rw [e1]
          exact f.drop
        · rintro j m σ' H' ⟨rfl, hj, F', fp', os', s', f', hσi, hHp, hl', ha, hb⟩
          by_cases hlt : j < os.length
          · have hx : xs[j]? = some xs[j] := List.getElem?_eq_getElem (by omega)
            refine .inr ⟨⟨xs, xs[j], .inl (.inl hHp), hx⟩, fun σ'' H'' => ∃ F' fp' os', Same F F' ∧ FrZ X.K T Z F' H'' σ'' ((st.set t none).set i (some (.lst os'))) fp' ∧ σ''[i]? = some (some (.ref p)) ∧ H'' p = some (.lst xs) ∧ os'.length = os.length ∧
              (∀ m, m < j + 1 → os'[m]? = ps[m]?) ∧ ∀ m, j + 1 ≤ m → os'[m]? = os[m]?, fun σ'' H'' q => ⟨os.length - (j + 1), by omega, rfl, hlt, q⟩, fun v H'' hy => ?_⟩
            obtain ⟨e2, hy⟩ := hy
            subst e2
            have ev := hy xs (.inl (.inl hHp))
            have hdead : ∀ o, ((st.set t none).set i (some (O.lst os')))[t]? ≠ some (some o) := fun o z => by
              rw [List.getElem?_set_ne hit, List.getElem?_set_self htl] at z
              cases z
            have f2 := Fr.dead (v := some v) f' hdead hr
            have htσ : t < σ'.length := by rw [f'.rep.len, List.length_set, List.length_set]; exact htl
            have hil : i < (st.set t none).length := by rw [List.length_set]; exact (List.getElem?_eq_some_iff.mp hos).1
            have hst' : ((st.set t none).set i (some (O.lst os')))[i]? = some (some (.lst os')) := List.getElem?_set_self hil
            have ho' : os'[j]? = some os[j] := (hb j (Nat.le_refl _)).trans (List.getElem?_eq_getElem hlt)
            obtain ⟨ys, ey, hyl, hpj⟩ := hpa j os[j] (List.getElem?_eq_getElem hlt)
            rw [ey] at ho'
            -- where the inner list lies
            obtain ⟨vi, hvi, rep2⟩ := f2.rep.at_ i _ hst'
            rw [List.getElem?_set_ne (Ne.symm hit), hσi] at hvi
            cases hvi
            obtain ⟨a2, xs2, fq2, ea2, ha2, hfa2, ro2, na2, efp2⟩ := rep2
            cases ea2
            rw [hHp] at ha2
            cases ha2
            obtain ⟨v1, g1, ev1, q2, sub2, _⟩ := RepOs.upd ro2 ho'
            obtain ⟨pj, xj, fj, ej, hpj0, _, _, _, _⟩ := q2
            rw [ev] at ev1
            cases ev1
            subst ej
            refine ⟨.ref pj, List.getElem?_set_self htσ, .inl ⟨rfl, xj, .inl (.inl hpj0)⟩, F', (st.set t none).set i none, f2.sub, ⟨?_, fun m o e => ?_⟩, ?_⟩
            · rw [f2.rep.len]
              simp only [List.length_set]
            · have e' : ((st.set t none).set i (some (O.lst os')))[m]? = some (some o) := by
                by_cases z : m = i
                · subst z
                  rw [List.getElem?_set_self hil] at e
                  cases e
                · rw [List.getElem?_set_ne (Ne.symm z)] at e ⊢
                  exact e
              obtain ⟨v', h1, h2⟩ := f2.rep.at_ m o e'
              exact ⟨v', h1, _, h2⟩
            · simp only [evs, q1, Rs.then]
              intro vs F2 H2 ms x2 rr
              obtain ⟨v2, w2, f12, m2, e2, r2, e3, r3⟩ := rr
              have ew : w2 = [] := e3.1
              subst ew
              have rr2 : RepR X.K T H'' F2 H2 r v2 := by
                cases r with
                | my o => exact ⟨f12, r2, fun a ha => (r3.1 a ha).1⟩
                | vw o => exact ⟨f12, r2⟩
              obtain ⟨F3, x3, _, rd⟩ := RepR.frozen x2 hd rr2
              have f3 := f2.ext x3
              obtain ⟨vi, hvi, rep3⟩ := f3.rep.at_ i _ hst'
              rw [List.getElem?_set_ne (Ne.symm hit), hσi] at hvi
              cases hvi
              obtain ⟨a3, xs3, fq3, ea3, ha3, hfa3, ro3, na3, efp3⟩ := rep3
              cases ea3
              have hHp3 : H2 p = some (.lst xs) := x3.hh _ _ hHp
              rw [hHp3] at ha3
              cases ha3
              obtain ⟨v1, g1', ev1', q3, sub3, step⟩ := RepOs.upd ro3 ho'
              rw [ev] at ev1'
              cases ev1'
              obtain ⟨pj3, xj3, fj3, ej3, hpj3, hfpj3, rj3, npj3, eg1⟩ := q3
              cases ej3
              subst eg1
              have hpjin : pj ∈ fq3 := sub3 pj List.mem_cons_self
              have hpne : pj ≠ p := fun z => na3 (by rw [← z]; exact hpjin)
              have hxj : xj3.length < sizeLine := by rw [rj3.length]; exact hyl
              have rnew : RepOs X.K T F3 H2 (ys ++ [.fz d]) (xj3 ++ [v2]) (fj3 ++ []) := RepOs.append rj3 (RepOs.one ⟨rd, rfl⟩) fun _ _ z => nomatch z
              rw [List.append_nil] at rnew
              have qn : RepO X.K T F3 (upd H2 pj (.lst (xj3 ++ [v2]))) (.lst (ys ++ [.fz d])) (.ref pj) (pj :: fj3) :=
                ⟨pj, _, fj3, rfl, upd_same, hfpj3, RepOs.mono (Same.refl _) _ _ _ rnew ⟨fun a ha u hu => by rw [upd_ne fun z => npj3 (by rw [← z]; exact ha)]; exact hu, fun a ha => (RepOs.dom _ _ _ rnew a ha).1⟩, npj3, rfl⟩
              obtain ⟨fq', rq', sq'⟩ := step (F' := F3) (H' := upd H2 pj (.lst (xj3 ++ [v2]))) (v' := .ref pj) (Same.refl _) ⟨fun a ha u hu => by
                  rw [List.mem_filter] at ha
                  rw [upd_ne fun z => by rw [z] at ha; simp at ha]
                  exact hu, fun a ha => (RepOs.dom _ _ _ ro3 a (List.mem_filter.mp ha).1).1⟩ qn fun a ha => .inl ha
              rw [set_same ev] at rq'
              have nq : p ∉ fq' := fun z => by
                rcases sq' p z with y | y
                · rcases List.mem_cons.mp y with u | u
                  · exact hpne u.symm
                  · exact na3 (sub3 p (List.mem_cons_of_mem _ u))
                · exact na3 y.1
              have pin : pj ∈ (upN fp' t []) i := by rw [efp3]; exact List.mem_cons_of_mem _ hpjin
              have wr := Fr.write (l := p :: fq') f3 (List.getElem?_eq_some_iff.mp hst').1 (by rw [List.getElem?_set_ne (Ne.symm hit)]; exact hσi) pin (u := .lst (xj3 ++ [v2])) (o' := .lst (os'.set j (.lst (ys ++ [.fz d]))))
                ⟨p, xs, fq', rfl, by rw [upd_ne (Ne.symm hpne)]; exact hHp3, hfa3, rq', nq, rfl⟩ fun a ha => by
                  rcases List.mem_cons.mp ha with z | z
                  · exact .inl (by rw [z, efp3]; exact List.mem_cons_self)
                  · rcases sq' a z with y | y
                    · exact .inl (by rw [efp3]; exact List.mem_cons_of_mem _ (sub3 a y))
                    · exact .inl (by rw [efp3]; exact List.mem_cons_of_mem _ y.1)
              rw [List.set_set] at wr
              refine ⟨pj, xj3, v2, rfl, e2, hpj3, hxj, F3, _, os'.set j (.lst (ys ++ [.fz d])), s'.trans x3.ff, wr, by rw [List.getElem?_set_ne (Ne.symm hit)]; exact hσi, by rw [upd_ne (Ne.symm hpne)]; exact hHp3, by rw [List.length_set]; exact hl', fun m hm => ?_, fun m hm => ?_⟩
              · by_cases z : m = j
                · subst z
                  rw [List.getElem?_set_self (by omega), hpj]
                · rw [List.getElem?_set_ne (Ne.symm z)]
                  exact ha m (by omega)
              · rw [List.getElem?_set_ne (by omega)]
                exact hb m (by omega)
          · have ej : j = os.length := by omega
            subst ej
            refine .inl ⟨⟨xs, .inl (.inl hHp), by omega⟩, ?_⟩
            have eo : os' = ps := List.ext_getElem? fun m => by
              rcases Nat.lt_or_ge m os.length with z | z
              · exact ha m z
              · rw [List.getElem?_eq_none (by omega), List.getElem?_eq_none (by omega)]
            rw [eo] at f'
            exact g F' H' σ' fp' s' f'
  · exact g.elim
end
end Ml

set_option Elab.async false
set_option linter.all false
set_option maxRecDepth 100000
set_option maxHeartbeats 4000000
/-! M15: when statements stand for the text's; a def keeps its promise. -/
namespace Ml
open PySem PySem.Spec PyProof.Rows L2
/-- no lent parameter is stored to -/
def noRef (refs : List Nat) (is : List Nat) : Bool := is.all fun i => !refs.contains i
theorem noRef_of {refs is : List Nat} (h : noRef refs is = true) : ∀ j ∈ is, j ∉ refs := fun j hj z => by
  have q := List.all_eq_true.mp h j hj
  rw [List.contains_iff_mem.mpr z] at q
  cases q
def okAs (M : Gm) (lim : Nat) (N : List Str) (sc : Scope) : List Ag → List Expr → Bool
  | [], [] => true
  | .r i :: as, .Name x _ :: es => decide (N[i]? = some x) && locB sc x && !dbg x && okAs M lim N sc as es
  | .e c :: as, e :: es => notStar e && okE M lim N sc c e && okAs M lim N sc as es
  | _, _ => false
/-- the keywords of a call, with their names -/
def okKs (M : Gm) (lim : Nat) (N : List Str) (sc : Scope) : List Ag → List Str → List Keyword → Bool
  | [], [], [] => true
  | .r i :: as, k :: ks, ⟨some m, .Name x _, _⟩ :: es => decide (m = k) && decide (N[i]? = some x) && locB sc x && !dbg x && okKs M lim N sc as ks es
  | .e c :: as, k :: ks, ⟨some m, e, _⟩ :: es => decide (m = k) && okE M lim N sc c e && okKs M lim N sc as ks es
  | _, _, _ => false
/-- a call with lent slots -/
def okCl (M : Gm) (lim : Nat) (N : List Str) (sc : Scope) (c : Cl) (as : List Ag) : Expr → Bool
  | .Call (.Name x _) args kws _ => (match c with
    | .kw c m => (match M.kw[m]? with
      | some κ => decide (κ.f < lim) && (match M.cls[c]?, M.fn[κ.f]? with
        | some i, some j => decide (i.name = x) && i.init.contains κ.f && decide κ.pl.Nodup && κ.pl.all (fun q => decide (q < 1 + as.length + κ.ds.length)) && κ.pl.contains 0 && decide (j.refs = (0 :: posA as 1).map fun q => κ.pl.idxOf q) && (posA as 1).all (fun q => κ.pl.contains q) &&
          (κ.pl.idxOf 0 == 0) && (j.np == κ.pl.length) && ((as.take κ.n).length == κ.n) && ((as.drop κ.n).length == κ.ks.length) && okAs M lim N sc (as.take κ.n) args && okKs M lim N sc (as.drop κ.n) κ.ks kws
        | _, _ => false)
      | none => false)
    | .fn f => kws.isEmpty && decide (f < lim) && (match M.fn[f]? with
      | some i => (i.top && !i.kwo) && decide (i.name = x) && decide (i.refs = posA as 0) && (i.np == as.length)
      | none => false) && okAs M lim N sc as args
    | .mk c f => kws.isEmpty && decide (f < lim) && (match M.cls[c]?, M.fn[f]? with
      | some i, some j => decide (i.name = x) && i.init.contains f && (j.np == as.length + 1) && decide (j.refs = 0 :: posA as 1) && !j.kwo
      | _, _ => false) && okAs M lim N sc as args) && gloB sc x && !dbg x && !args.isEmpty && decide (lentOf as).Nodup
  | _ => false
def asgB (sc : Scope) : Expr → Expr → Bool
  | .Name y py, e => notLc e || swapB sc y py e
  | _, e => notLc e && notTup e
mutual
def okS (M : Gm) (lim : Nat) (N : List Str) (sc : Scope) (refs : List Nat) : S → Stmt → Bool
  | .asg _ t x, .Assign [tg] e pos => okTg N sc t tg && okE M lim N sc x e && noRef refs t.slots && asgB sc tg e
  | .ret x, .Return (some e) _ => okE M lim N sc x e
  | .retN, .Return none _ => true
  | .retC c as, .Return (some e) _ => okCl M lim N sc c as e
  | .expr x, .Expr e _ => okE M lim N sc x e && notLc e
  | .callr none _ c as, .Expr e _ => okCl M lim N sc c as e
  | .callr (some i) _ c as, .Assign [.Name y py] e pos => decide (N[i]? = some y) && stoB sc y && noRef refs [i] && okCl M lim N sc c as e
  | .ite c a b, .If e x y _ => okT M lim N sc c e && okSs M lim N sc refs a x && okSs M lim N sc refs b y
  | .for_ t s src b, .For tg it body [] _ => okTg N sc t tg && okI M lim N sc s src it && notSet it && noRef refs t.slots && okSs M lim N sc refs b body
  | .while_ c b, .While e body [] _ => okT M lim N sc c e && okSs M lim N sc refs b body
  | .brk, .Break _ => true
  | .cnt, .Continue _ => true
  | .pass, .Pass _ => true
  | .mut i p .app es, .Expr (.Call (.Attribute x a p1) (y :: ys) [] p2) _ => decide (a = "append") && okP M lim N sc i p.reverse x && notCall x && (p1.endLine == p2.line) && okEs M lim N sc es (y :: ys) && decide (ys.length < 20)
  | .mut i p .ins es, .Expr (.Call (.Attribute x a p1) (y :: ys) [] p2) _ => decide (a = "insert") && okP M lim N sc i p.reverse x && notCall x && (p1.endLine == p2.line) && okEs M lim N sc es (y :: ys) && decide (ys.length < 20)
  | .setC i f c as, .Assign [.Attribute (.Name o p) g _] e pos => decide (M.nms[f]? = some g) && decide (N[i]? = some o) && locB sc o && !dbg o && okCl M lim N sc c as e
  | .each i t x, .For (.Name nt _) (.Name ni _) [.Expr (.Call (.Attribute (.Name nt' _) a p2) [e] [] p3) _] [] _ => decide (nt' = nt) && decide (a = "append") && decide (N[i]? = some ni) && locB sc ni && !dbg ni && decide (N[t]? = some nt) && stoB sc nt && !dbg nt && locB sc nt && noRef refs [t] && okE M lim N sc x e && notStar e && (p2.endLine == p3.line)
  | .seti i p j x, .Assign [.Subscript o s _] e pos => notSlice s && okP M lim N sc i p.reverse o && okE M lim N sc j s && okE M lim N sc x e
  | .setf i f x, .Assign [.Attribute (.Name o p) g _] e pos => decide (M.nms[f]? = some g) && decide (N[i]? = some o) && locB sc o && !dbg o && okE M lim N sc x e
  | _, _ => false
def okSs (M : Gm) (lim : Nat) (N : List Str) (sc : Scope) (refs : List Nat) : List S → List Stmt → Bool
  | [], [] => true
  | .frz _ :: ss, sts => okSs M lim N sc refs ss sts
  | s :: ss, st :: sts => okS M lim N sc refs s st && okSs M lim N sc refs ss sts
  | _, _ => false
end
section
variable {T : Tb} {M : Gm} {G : Gl} {lim k : Nat} {N : List Str} {sc : Scope} {W : XK} {X : Cx} {Z : Fz} {a b : E} {x y e : Expr} {pos : Pos} {K : PySem.W.Frag}
theorem ok_As (c : Cap T M G lim k N sc W X) : ∀ (as : List Ag) (es : List Expr), okAs M lim N sc as es = true → PA X es (tAs X.K T W G as) ∧ noStars es = true
  | [], es, h => by
    cases es with
    | nil => exact ⟨as_nil, rfl⟩
    | cons _ _ => cases h
  | .r i :: as, es, h => by
    cases es with
    | nil => cases h
    | cons e es =>
      cases e <;> first | (cases h; done) | skip
      simp only [okAs, Bool.and_eq_true, decide_eq_true_eq] at h
      obtain ⟨⟨⟨h1, h2⟩, h3⟩, h4⟩ := h
      obtain ⟨q1, q2⟩ := ok_As c as _ h4
      exact ⟨as_r c h1 h2 h3 q1, q2⟩
  | .e w :: as, es, h => by
    cases es with
    | nil => cases h
    | cons e es =>
      simp only [okAs, Bool.and_eq_true] at h
      obtain ⟨q1, q2⟩ := ok_As c as es h.2
      exact ⟨as_e h.1.1 (ok_E w e c h.1.2) q1, by simp only [noStars, Bool.and_eq_true]; exact ⟨h.1.1, q2⟩⟩

theorem ok_ID (c : Cap T M G lim k N sc W X) : ∀ (n : Nat) (cs : List E) (tg e : Expr), okI M lim N sc n cs e = true → PI X tg e (tID X.K T W G n cs)
  | 0, [a], tg, e, h => id_any (ok_E a e c h)
  | 1, [a], tg, e, h => by
    unfold okI at h
    split at h <;> first | contradiction | (rename_i heq; cases heq; done) | skip
    rename_i heq
    cases heq
    rename_i n p e1 p2
    simp only [Bool.and_eq_true, decide_eq_true_eq] at h
    obtain ⟨⟨⟨⟨h1, h2⟩, h3⟩, h4⟩, h5⟩ := h
    exact id_range1 c h1 h2 h3 h4 (es_cons h4 (ok_E a _ c h5) es_nil)
  | 2, [a, b], tg, e, h => by
    unfold okI at h
    split at h <;> first | contradiction | (rename_i heq; cases heq; done) | skip
    rename_i heq
    cases heq
    rename_i n p e1 e2 p2
    simp only [Bool.and_eq_true, decide_eq_true_eq] at h
    obtain ⟨⟨⟨⟨⟨⟨h1, h2⟩, h3⟩, h4⟩, h5⟩, h6⟩, h7⟩ := h
    exact id_range2 c h1 h2 h3 h4 h5 (es_cons h4 (ok_E a _ c h6) (es_cons h5 (ok_E b _ c h7) es_nil))
  | 0, [], _, _, h => by cases h
  | 0, _ :: _ :: _, _, _, h => by cases h
  | 1, [], _, _, h => by cases h
  | 1, _ :: _ :: _, _, _, h => by cases h
  | 2, [], _, _, h => by cases h
  | 2, [_], _, _, h => by cases h
  | 2, _ :: _ :: _ :: _, _, _, h => by cases h
  | n + 3, cs, _, _, h => by
    unfold okI at h
    split at h <;> first | contradiction | omega
theorem ok_Ks (c : Cap T M G lim k N sc W X) : ∀ (as : List Ag) (ks : List Str) (es : List Keyword), okKs M lim N sc as ks es = true → PK X es (tAs X.K T W G as) ∧
    (∀ pos, (backToKw pos (keywordEach es X.env)).all (·.1.isSome) = true) ∧ (∀ pos, (backToKw pos (keywordEach es X.env)).filterMap (·.1) = ks) ∧ ∀ pos, (backToKw pos (keywordEach es X.env)).any (·.1.isNone) = false
  | [], ks, es, h => by
    cases es with
    | nil =>
      cases ks with
      | nil => exact ⟨pas_nil, fun _ => rfl, fun _ => rfl, fun _ => rfl⟩
      | cons _ _ => cases h
    | cons _ _ => cases ks <;> cases h
  | .r i :: as, ks, es, h => by
    match ks, es, h with
    | k :: ks, ⟨some m, .Name x p, kp⟩ :: es, h =>
      simp only [okKs, Bool.and_eq_true, decide_eq_true_eq] at h
      obtain ⟨⟨⟨⟨h0, h1⟩, h2⟩, h3⟩, h4⟩ := h
      obtain ⟨q1, q2, q3, q4⟩ := ok_Ks c as ks es h4
      subst h0
      refine ⟨pas_r c h1 h2 h3 q1, fun pos => ?_, fun pos => ?_, fun pos => ?_⟩
      · show (true && (backToKw pos (keywordEach es X.env)).all (·.1.isSome)) = true
        rw [q2 pos]
        rfl
      · show m :: (backToKw pos (keywordEach es X.env)).filterMap (·.1) = _
        rw [q3 pos]
      · show (false || (backToKw pos (keywordEach es X.env)).any (·.1.isNone)) = false
        rw [q4 pos]
        rfl
  | .e w :: as, ks, es, h => by
    match ks, es, h with
    | k :: ks, ⟨some m, e, kp⟩ :: es, h =>
      simp only [okKs, Bool.and_eq_true, decide_eq_true_eq] at h
      obtain ⟨⟨h0, h1⟩, h4⟩ := h
      obtain ⟨q1, q2, q3, q4⟩ := ok_Ks c as ks es h4
      subst h0
      refine ⟨pas_e (ok_E w e c h1) q1, fun pos => ?_, fun pos => ?_, fun pos => ?_⟩
      · show (true && (backToKw pos (keywordEach es X.env)).all (·.1.isSome)) = true
        rw [q2 pos]
        rfl
      · show m :: (backToKw pos (keywordEach es X.env)).filterMap (·.1) = _
        rw [q3 pos]
      · show (false || (backToKw pos (keywordEach es X.env)).any (·.1.isNone)) = false
        rw [q4 pos]
        rfl
theorem ok_Cl (c : Cap T M G lim k N sc W X) {cl : Cl} {as : List Ag} (h : okCl M lim N sc cl as e = true) : PE X e (tCl X.K T W G Z cl as) ∧ notLc e = true := by
  unfold okCl at h
  split at h <;> first | contradiction | skip
  rename_i n p args kws p2
  simp only [Bool.and_eq_true, decide_eq_true_eq] at h
  obtain ⟨⟨⟨⟨h1, h2⟩, h3⟩, h4⟩, h5⟩ := h
  refine ⟨?_, rfl⟩
  cases args with
  | nil => cases h4
  | cons z zs =>
    cases cl with
    | fn f =>
      simp only [Bool.and_eq_true, decide_eq_true_eq] at h1
      obtain ⟨⟨⟨g0, g1⟩, g2⟩, g3⟩ := h1
      cases kws with
      | cons _ _ => cases g0
      | nil =>
        obtain ⟨q1, q2⟩ := ok_As c as (z :: zs) g3
        have hns' := Bool.and_eq_true_iff.mp q2
        split at g2
        · rename_i i hi
          simp only [Bool.and_eq_true, decide_eq_true_eq, beq_iff_eq] at g2
          obtain ⟨⟨⟨⟨e1, hko⟩, e2⟩, e3⟩, e4⟩ := g2
          have hko := Bool.not_eq_true' _ ▸ hko
          exact c_fn c g1 hi e1 hko e2 e3 h5 e4 h2 h3 hns'.1 (fun pos => backTo_plain pos hns'.2) q1
        · cases g2
    | mk d f =>
      simp only [Bool.and_eq_true, decide_eq_true_eq] at h1
      obtain ⟨⟨⟨g0, g1⟩, g2⟩, g3⟩ := h1
      cases kws with
      | cons _ _ => cases g0
      | nil =>
        obtain ⟨q1, q2⟩ := ok_As c as (z :: zs) g3
        have hns' := Bool.and_eq_true_iff.mp q2
        split at g2
        · rename_i i j hi hj
          simp only [Bool.and_eq_true, decide_eq_true_eq, beq_iff_eq] at g2
          obtain ⟨⟨⟨⟨e1, e2⟩, e3⟩, e4⟩, hko⟩ := g2
          have hko := Bool.not_eq_true' _ ▸ hko
          exact c_mk c g1 hi hj hko e1 (List.contains_iff_mem.mp e2) e4 h5 e3 h2 h3 hns'.1 (fun pos => backTo_plain pos hns'.2) q1
        · cases g2
    | kw d m =>
      simp only at h1
      split at h1
      · rename_i κ hm
        obtain ⟨g1, g2⟩ := Bool.and_eq_true_iff.mp h1
        split at g2
        · rename_i i j hi hj
          simp only [Bool.and_eq_true, decide_eq_true_eq, beq_iff_eq] at g2
          obtain ⟨⟨⟨⟨⟨⟨⟨⟨⟨⟨⟨⟨e1, e2⟩, e3⟩, e4⟩, e5⟩, e6⟩, e7⟩, e8⟩, e9⟩, e10⟩, e11⟩, e12⟩, e13⟩ := g2
          obtain ⟨q1, q2⟩ := ok_As c _ _ e12
          obtain ⟨r1, r2, r3, r4⟩ := ok_Ks c _ _ _ e13
          exact c_kw c hm (of_decide_eq_true g1) hi hj e1 (List.contains_iff_mem.mp e2) e3 (fun q hq => of_decide_eq_true (List.all_eq_true.mp e4 q hq)) (List.contains_iff_mem.mp e5) e6 (fun q hq => List.contains_iff_mem.mp (List.all_eq_true.mp e7 q hq)) e8 h5 e9 h2 h3 (Bool.and_eq_true_iff.mp q2).1 e10 e11 q1 r1 (r2 _) (r3 _)
            (by rw [backTo_plain _ q2, r4]; rfl)
        · cases g2
      · cases h1
theorem asg_c (c : Cs T M G lim k N sc W X) {tg : Expr} {g : TG} (he : PE X e (tE X.K T W G a)) (hg : PG X tg g) (hx : tgX tg = true) (hs : notLc e = true) (hw : notTup tg = true ∨ notTup e = true) : PS X (.Assign [tg] e pos) (tAsg (tE X.K T W G a) g) := by
  refine ps_asg he hg (swaps_no hs) ?_ ?_
  · rcases hw with h | h
    · cases tg <;> first | rfl | cases h
    · cases tg <;> cases e <;> first | rfl | (cases h; done) | (cases hx; done)
  · have e0 : assignEach [] X.env = [] := by first | rfl | simp [assignEach]
    rw [each_c hx, e0]
    rfl
theorem swap_true {sc' : Scope} {n : Str} {py pe spos : Pos} {elt : Expr} {gs : List Comprehension} (c : Cs T M G lim k N sc W X) (h : swapB sc n py (.ListComp elt gs sc' pe) = true) :
    X.env.scope.names.lookup n = some .local ∧ swapsWith (.ListComp elt gs sc' pe) (some (.Name n py)) spos.line X.env = pure true := by
  unfold swapB at h
  simp only [Bool.and_eq_true, decide_eq_true_eq, Bool.not_eq_true'] at h
  obtain ⟨⟨h1, h2⟩, h3⟩ := h
  rw [← c.env] at h1
  exact ⟨h1, sw_true (by rw [c.env]; exact c.kind) h1 h2 h3⟩
theorem ok_lc (c : Cs T M G lim k N sc W X) {i : Nat} {n : Str} {py : Pos} {elt : E} {t : Tg} {n' : Nat} {src : List E} {ifs : List Te} (h1 : N[i]? = some n) (h : okE M lim N sc (.lc elt t n' src ifs) e = true) (hl : X.env.scope.names.lookup n = some .local)
    (hs : swapsWith e (some (.Name n py)) pos.line X.env = pure true) : PS X (.Assign [.Name n py] e pos) (tAsg (tE X.K T W G (.lc elt t n' src ifs)) (gName i)) := by
  unfold okE at h
  split at h <;> first | contradiction | (rename_i heq; cases heq; done) | skip
  rename_i heq
  cases heq
  rename_i ex tg it cs sc' p
  simp only [Bool.and_eq_true] at h
  obtain ⟨⟨⟨⟨⟨g1, g2⟩, g3⟩, g4⟩, g5⟩, g6⟩ := h
  exact s_lc c.toCap h1 hl hs g5 (ok_I _ _ tg it c.toCap g4) g6 (fun s H C cl fp => ok_Tg (cap_blk c.toCap s H C cl fp) _ tg g2) (fun s H C cl fp => ok_Ts _ cs (cap_blk c.toCap s H C cl fp) g3) (fun s H C cl fp => ok_E _ ex (cap_blk c.toCap s H C cl fp) g1)
theorem lc_only {w : E} {ex : Expr} {gs : List Comprehension} {sc' : Scope} {pe : Pos} (h : okE M lim N sc w (.ListComp ex gs sc' pe) = true) : ∃ elt t n' src ifs, w = .lc elt t n' src ifs := by
  unfold okE at h
  split at h <;> first | contradiction | (rename_i heq; cases heq; done) | (rename_i heq _; cases heq; done) | exact ⟨_, _, _, _, _, rfl⟩
mutual
theorem ok_S (c : Cs T M G lim k N sc W X) : ∀ (s : S) (st : Stmt), okS M lim N sc Z.refs s st = true → PS X st (tS X.K T W G Z s)
  | .asg fr t w, st, h => by
    cases st <;> first | (cases h; done) | skip
    rename_i tgs e pos
    match tgs, h with
    | [tg], h =>
      have h : (okTg N sc t tg && okE M lim N sc w e && noRef Z.refs t.slots && asgB sc tg e) = true := h
      obtain ⟨h1, h4⟩ := Bool.and_eq_true_iff.mp h
      simp only [Bool.and_eq_true] at h1
      obtain ⟨⟨h1, h2⟩, h3⟩ := h1
      have hr := noRef_of h3
      cases t with
      | nm i =>
        cases tg <;> first | (cases h1; done) | skip
        rename_i n py _
        have hi : i ∉ Z.refs := hr i List.mem_cons_self
        refine s_asgN hi ?_
        have h1' := h1
        simp only [okTg, Bool.and_eq_true, decide_eq_true_eq] at h1'
        obtain ⟨l1, l2⟩ := c.sto n h1'.2
        by_cases hlc : notLc e = true
        · exact asg_c c (ok_E w e c.toCap h2) (pg_name (i := i) (by rw [c.hN]; exact c.nd) (by rw [c.hN]; exact h1'.1) l1 l2) rfl hlc (.inl rfl)
        · have h4 : (notLc e || swapB sc n py e) = true := h4
          have hsw : swapB sc n py e = true := by
            rcases Bool.or_eq_true_iff.mp h4 with z | z
            · exact absurd z hlc
            · exact z
          cases e <;> first | (cases hsw; done) | skip
          obtain ⟨hl, hs⟩ := swap_true (spos := pos) c hsw
          obtain ⟨elt, t', n', src, ifs, rfl⟩ := lc_only h2
          exact ok_lc c h1'.1 h2 hl hs
      | tp ts =>
        cases tg <;> first | (cases h1; done) | skip
        have h4 := Bool.and_eq_true_iff.mp h4
        exact s_asgT (fun i z => nomatch z) hr (asg_c c (ok_E w e c.toCap h2) (ok_Tg c.toCap _ _ h1) rfl h4.1 (.inr h4.2))
    | [], h => cases h
    | _ :: _ :: _, h => cases h
  | .ret w, st, h => by
    cases st <;> first | (cases h; done) | skip
    rename_i e pos
    cases e with
    | none => cases h
    | some e =>
      have h : okE M lim N sc w e = true := h
      by_cases hv : ∃ i, w = .v i
      · obtain ⟨i, rfl⟩ := hv
        cases e <;> first | (cases h; done) | skip
        simp only [okE, Bool.and_eq_true, decide_eq_true_eq] at h
        exact s_retV c.toCap h.1.1 h.1.2 h.2
      · exact s_ret c.toCap (ok_E w e c.toCap h) fun i z => hv ⟨i, z⟩
  | .retN, st, h => by
    cases st <;> first | (cases h; done) | skip
    rename_i e pos
    cases e with
    | none => exact s_retN
    | some e => cases h
  | .retC cl as, st, h => by
    cases st <;> first | (cases h; done) | skip
    rename_i e pos
    cases e with
    | none => cases h
    | some e => exact s_retC (ok_Cl c.toCap h).1
  | .expr w, st, h => by
    cases st <;> first | (cases h; done) | skip
    rename_i e pos
    have h := Bool.and_eq_true_iff.mp h
    exact s_expr (ok_E w e c.toCap h.1) h.2
  | .callr none fr cl as, st, h => by
    cases st <;> first | (cases h; done) | skip
    rename_i e pos
    obtain ⟨q1, q2⟩ := ok_Cl c.toCap h
    exact s_call0 q2 q1
  | .callr (some i) fr cl as, st, h => by
    cases st <;> first | (cases h; done) | skip
    rename_i tgs e pos
    match tgs, h with
    | [.Name y py], h =>
      simp only [okS, Bool.and_eq_true, decide_eq_true_eq] at h
      obtain ⟨⟨⟨h1, h2⟩, h3⟩, h4⟩ := h
      obtain ⟨q1, q2⟩ := ok_Cl c.toCap h4
      obtain ⟨l1, l2⟩ := c.sto y h2
      refine s_call1 (noRef_of h3 i List.mem_cons_self) (ps_asg q1 (pg_name (i := i) (by rw [c.hN]; exact c.nd) (by rw [c.hN]; exact h1) l1 l2) (by show swapsWith e (some (.Name y py)) pos.line X.env = _; exact swaps_no q2) (by cases e <;> rfl) ?_)
      have e0 : assignEach [] X.env = [] := by first | rfl | simp [assignEach]
      rw [each_c rfl, e0]
      rfl
  | .ite t ba bb, st, h => by
    cases st <;> first | (cases h; done) | skip
    rename_i e sa sb pos
    simp only [okS, Bool.and_eq_true] at h
    exact s_ite (ok_T t e c.toCap h.1.1) (ok_Ss c ba sa h.1.2) (ok_Ss c bb sb h.2)
  | .for_ t n src b, st, h => by
    cases st <;> first | (cases h; done) | skip
    rename_i tg it body els pos
    cases els with
    | cons _ _ => cases h
    | nil =>
      simp only [okS, Bool.and_eq_true] at h
      obtain ⟨⟨⟨⟨h1, h2⟩, h3⟩, h4⟩, h5⟩ := h
      exact s_for c h3 (noRef_of h4) (ok_ID c.toCap n src tg it h2) (ok_Tg c.toCap t tg h1) (ok_Ss c b body h5)
  | .while_ t b, st, h => by
    cases st <;> first | (cases h; done) | skip
    rename_i e body els pos
    cases els with
    | cons _ _ => cases h
    | nil =>
      simp only [okS, Bool.and_eq_true] at h
      exact s_while c (ok_T t e c.toCap h.1) (ok_Ss c b body h.2)
  | .brk, st, h => by
    cases st <;> first | (cases h; done) | skip
    exact s_brk
  | .cnt, st, h => by
    cases st <;> first | (cases h; done) | skip
    exact s_cnt
  | .pass, st, h => by
    cases st <;> first | (cases h; done) | skip
    exact s_pass
  | .mut i p .app es, st, h => by
    cases st <;> first | (cases h; done) | skip
    rename_i e pos
    match e, h with
    | .Call (.Attribute x an p1) (y :: ys) [] p2, h =>
      simp only [okS, Bool.and_eq_true, decide_eq_true_eq] at h
      obtain ⟨⟨⟨⟨⟨h1, h2⟩, h3⟩, h4⟩, h5⟩, hl⟩ := h
      subst h1
      have hp := p_path (G := G) c.toCap h2
      rw [List.reverse_reverse] at hp
      have hns := okEs_noStars h5
      exact s_mut mu_app F.slot_list_append F.type_list_append mt_append h3 h4 hp (ok_Es es (y :: ys) c.toCap h5) (fun ho ha => bm_c F.slot_list_append F.type_list_append mt_append h3 h4 hns hl ho ha)
  | .mut i p .ins es, st, h => by
    cases st <;> first | (cases h; done) | skip
    rename_i e pos
    match e, h with
    | .Call (.Attribute x an p1) (y :: ys) [] p2, h =>
      simp only [okS, Bool.and_eq_true, decide_eq_true_eq] at h
      obtain ⟨⟨⟨⟨⟨h1, h2⟩, h3⟩, h4⟩, h5⟩, hl⟩ := h
      subst h1
      have hp := p_path (G := G) c.toCap h2
      rw [List.reverse_reverse] at hp
      have hns := okEs_noStars h5
      exact s_mut mu_ins F.slot_list_insert F.type_list_insert mt_insert h3 h4 hp (ok_Es es (y :: ys) c.toCap h5) (fun ho ha => bm_c F.slot_list_insert F.type_list_insert mt_insert h3 h4 hns hl ho ha)
  | .mut i p .pop es, st, h => by cases st <;> cases h
  | .mut i p .popAt es, st, h => by cases st <;> cases h
  | .mut i p .ext es, st, h => by cases st <;> cases h
  | .seti i p j w, st, h => by
    cases st <;> first | (cases h; done) | skip
    rename_i tgs e pos
    match tgs, h with
    | [.Subscript o s tp], h =>
      simp only [okS, Bool.and_eq_true] at h
      obtain ⟨⟨⟨h1, h2⟩, h3⟩, h4⟩ := h
      have hp := p_path (G := G) c.toCap h2
      rw [List.reverse_reverse] at hp
      exact s_seti hp (ok_E j s c.toCap h3) (ok_E w e c.toCap h4) h1
  | .setf i f w, st, h => by
    cases st <;> first | (cases h; done) | skip
    rename_i tgs e pos
    match tgs, h with
    | [.Attribute (.Name o p) g tp], h =>
      simp only [okS, Bool.and_eq_true, decide_eq_true_eq] at h
      obtain ⟨⟨⟨⟨h1, h2⟩, h3⟩, h4⟩, h5⟩ := h
      exact s_setf c.toCap h1 h2 h3 h4 (ok_E w e c.toCap h5)
  | .setC i f cl as, st, h => by
    cases st <;> first | (cases h; done) | skip
    rename_i tgs e pos
    match tgs, h with
    | [.Attribute (.Name o p) g tp], h =>
      simp only [okS, Bool.and_eq_true, decide_eq_true_eq] at h
      obtain ⟨⟨⟨⟨h1, h2⟩, h3⟩, h4⟩, h5⟩ := h
      exact s_setC c.toCap h1 h2 h3 h4 (ok_Cl c.toCap h5).1
  | .each i t w, st, h => by
    cases st <;> first | (cases h; done) | skip
    rename_i tg it body els pos
    match tg, it, body, els, h with
    | .Name nt p1, .Name ni p0, [.Expr (.Call (.Attribute (.Name nt' p4) a p2) [e] [] p3) p5], [], h =>
      simp only [okS, Bool.and_eq_true, decide_eq_true_eq] at h
      obtain ⟨⟨⟨⟨⟨⟨⟨⟨⟨⟨⟨⟨h1, h2⟩, h3⟩, h4⟩, h5⟩, h6⟩, h7⟩, h8⟩, h9⟩, h10⟩, h11⟩, h12⟩, h13⟩ := h
      subst h1
      subst h2
      exact s_each c h3 h4 h5 h6 h7 h8 h9 (noRef_of h10 t List.mem_cons_self) (ok_E w e c.toCap h11) h12 h13
  | .raise d f es, st, h => by cases st <;> cases h
  | .frz i, st, h => by cases st <;> cases h
theorem ok_Ss (c : Cs T M G lim k N sc W X) : ∀ (ss : List S) (sts : List Stmt), okSs M lim N sc Z.refs ss sts = true → PSs X sts (tSs X.K T W G Z ss)
  | [], sts, h => by
    cases sts with
    | nil => exact ss_nil
    | cons _ _ => cases h
  | s :: ss, sts, h => by
    by_cases hf : ∃ i, s = .frz i
    · obtain ⟨i, rfl⟩ := hf
      exact ss_frz (ok_Ss c ss sts (by cases sts <;> exact h))
    · cases sts with
      | nil => cases s <;> first | (cases h; done) | exact absurd ⟨_, rfl⟩ hf
      | cons st sts =>
        have h' : (okS M lim N sc Z.refs s st && okSs M lim N sc Z.refs ss sts) = true := by
          cases s <;> first | exact h | exact absurd ⟨_, rfl⟩ hf
        have h' := Bool.and_eq_true_iff.mp h'
        exact ss_cons (ok_S c s st h'.1) (ok_Ss c ss sts h'.2)
end
end
end Ml

set_option Elab.async false
set_option linter.all false
set_option maxRecDepth 100000
set_option maxHeartbeats 4000000
/-! M16: a def keeps its promise. -/
namespace Ml
open PySem PySem.Spec PyProof.Rows L2
/-- what the whole text holds -/
structure Wd (K : PySem.W.Frag) (mg : Str → Option Value) (T : Tb) (M : Gm) (G : Gl) : Prop where
  con : ∀ (i : Nat) (x : Str), M.con[i]? = some x → ∃ d u v, G.cons[i]? = some d ∧ mg x = some u ∧ RelV v u ∧ ∀ H, Rep K T H d v
  free : ∀ x, M.free.contains x = true → mg x = none
  gfn : ∀ (f : Nat) (i : FnI), M.fn[f]? = some i → i.top = true → mg i.name = some (.ref (T.fn f)) ∧ PySem.W.keepIn K (.ref (T.fn f)) = true
  made : ∀ (c : Nat) (i : ClI), M.cls[c]? = some i → mg i.name = some (.ref (T.cls c)) ∧ ∀ f ∈ i.init, Mk K (T.cls c) (T.fn f)
  fl : ∀ (c f : Nat), okF G.fl c f = true → Cls K (T.cls c) ∧ NoAttr K (T.cls c) (T.nm f) ∧ f < T.nl
  inj : ∀ i j, i < T.nl → j < T.nl → T.nm i = T.nm j → i = j
  nms : ∀ (f : Nat) (x : Str), M.nms[f]? = some x → T.nm f = x
  isc : ∀ c c', c < G.fl.length → c' < G.fl.length → PySem.W.kitOne K (.ref (T.cls c')) (.ref (T.cls c)) = some (c' == c)
  kwE : G.kw = M.kw
  ty : ∀ (c : Nat) (H : Hp) (a dx : Addr) (fs : List (Str × V)), c < G.fl.length → H a = some (.ins (T.cls c) dx fs) → TyOf K H (.ref a) (.ref (T.cls c))
/-- the defs so far keep their promises -/
def Fns (P : Program) (w : World) (K : PySem.W.Frag) (mg : Str → Option Value) (base : Heap) (T : Tb) (M : Gm) (G : Gl) (lim k : Nat) : Prop :=
  ∀ (f : Nat) (i : FnI), M.fn[f]? = some i → i.kwo = false → f < lim → ∃ fd ps, Binds K fd ps [] ∧ FnOk P w K mg base (L2.CX P w) k (T.fn f) fd ps (spM K T i (G.fs f))
/-- .. called with keywords -/
def Fks (P : Program) (w : World) (K : PySem.W.Frag) (mg : Str → Option Value) (base : Heap) (T : Tb) (M : Gm) (G : Gl) (lim k : Nat) : Prop :=
  ∀ (m : Nat) (κ : Kw) (i : FnI), M.kw[m]? = some κ → M.fn[κ.f]? = some i → κ.f < lim → ∃ (fd : FuncData) (ps : List Str) (mv : List Value) (ds : List V), KBn K fd ps (κ.n + 1) κ.ks (fun us ws => pick κ.pl (us ++ (ws ++ mv))) (fun vs zs => pick κ.pl (vs ++ (zs ++ ds))) ∧ (∀ H, Reps K T H κ.ds ds) ∧
    FnOk P w K mg base (L2.CX P w) k (T.fn κ.f) fd ps (spM K T i (G.fs κ.f))
section
variable {P : Program} {w : World} {K : PySem.W.Frag} {mg : Str → Option Value} {base : Heap} {T : Tb} {M : Gm} {G : Gl} {lim k : Nat} {N : List Str} {sc : Scope} {qual : Str} {f : Addr} {cd : Value} {A : Around} {outer : List Env} {s : Shared} {H : Hp} {E : XK}
theorem cs_of (wd : Wd K mg T M G) (fn : Fns P w K mg base T M G lim k) (fk : Fks P w K mg base T M G lim k) (nd : N.Nodup) (hk : sc.kind = .function) (hr : Room (k + 1) (A.deeper (envOfC qual sc s.heap.objs.size f cd))) :
    Cs T M G lim k N sc E (cxOf (L2.CX P w) P w K mg base N qual sc f cd A outer s H E) where
  hN := rfl
  nd := nd
  loc := fun x h => by
    unfold locB at h
    show sc.names.lookup x = some .local ∨ sc.names.lookup x = some .cell ∨ sc.names.lookup x = some .free
    split at h <;> first | (rename_i e; exact .inl e) | (rename_i e; exact .inr (.inl e)) | (rename_i e; exact .inr (.inr e)) | cases h
  sto := fun x h => by
    unfold stoB at h
    refine ⟨?_, .inl rfl⟩
    show sc.names.lookup x = some .local ∨ sc.names.lookup x = some .cell
    split at h <;> first | (rename_i e; exact .inl e) | (rename_i e; exact .inr e) | cases h
  glo := fun x h => by
    unfold gloB at h
    show sc.names.lookup x = some .globalImplicit
    split at h <;> first | (rename_i e; exact e) | cases h
  cf := fun x h => h
  calm := rfl
  units := by have := hr.un; show (A.deeper _).units + 64 < cLine; omega
  room := hr
  con := wd.con
  free := wd.free
  fn := fn
  gfn := wd.gfn
  made := wd.made
  fl := wd.fl
  inj := wd.inj
  nms := wd.nms
  isc := wd.isc
  ty := wd.ty
  kwE := wd.kwE
  kw := fun m κ i e1 e2 l => fk m κ i e1 e2 l
  wish := passes_call (takes_of rfl rfl rfl rfl) fun _ _ _ _ h => h
  env := rfl
  kind := hk
  own := passes_of rfl
/-- each value with what it owns -/
theorem RepOs.each {F H : Hp} : ∀ {os : List O} {vs : List V} {l : List Addr}, RepOs K T F H os vs l → ∃ fn : Nat → List Addr, (∀ i o, os[i]? = some o → ∃ v, vs[i]? = some v ∧ RepO K T F H o v (fn i)) ∧ (∀ i j a, a ∈ fn i → a ∈ fn j → i = j) ∧ ∀ i a, a ∈ fn i → a ∈ l
  | [], vs, l, r => ⟨fun _ => [], (fun i o e => by simp at e), (fun _ _ _ z => nomatch z), fun _ _ z => nomatch z⟩
  | o :: os, vs, l, r => by
    obtain ⟨v, w, f1, f2, e, h1, h2, h3, h4⟩ := r
    subst e h4
    obtain ⟨fn, g1, g2, g3⟩ := RepOs.each h2
    refine ⟨fun i => match i with | 0 => f1 | i + 1 => fn i, fun i o' e => ?_, fun i j a hi hj => ?_, fun i a hi => ?_⟩
    · cases i with
      | zero =>
        obtain rfl : o = o' := by simpa using e
        exact ⟨v, rfl, h1⟩
      | succ i =>
        obtain ⟨v', e1, q⟩ := g1 i o' (by simpa using e)
        exact ⟨v', by simpa using e1, q⟩
    · cases i with
      | zero =>
        cases j with
        | zero => rfl
        | succ j => exact absurd (g3 j a hj) (h3 a hi)
      | succ i =>
        cases j with
        | zero => exact absurd (g3 i a hi) (h3 a hj)
        | succ j => rw [g2 i j a hi hj]
    · cases i with
      | zero => exact List.mem_append_left _ hi
      | succ i => exact List.mem_append_right _ (g3 i a hi)
theorem start_rep {F H : Hp} {refs : List Nat} {os : List O} {vs : List V} {l : List Addr} (sub : Same F H) (r : RepOs K T F H os vs l) (hr : ∀ j ∈ refs, j < vs.length) :
    ∃ fp, FrZ K T ⟨refs, vs, F, H, l⟩ F H (L2.start N vs) (os.map some ++ List.replicate (N.length - os.length) none) fp := by
  obtain ⟨fn, g1, g2, g3⟩ := r.each
  have hl := r.length
  refine ⟨fn, After.refl sub, ⟨?_, fun i o e => ?_, g2, fun i a h => RepOs.dom _ _ _ r a (g3 i a h)⟩, fun i a h => .inl (g3 i a h), fun j hj => ?_⟩
  · unfold L2.start
    rw [List.length_append, List.length_append, List.length_map, List.length_map, List.length_replicate, List.length_replicate, hl]
  · by_cases z : i < os.length
    · rw [List.getElem?_append_left (by rw [List.length_map]; exact z), List.getElem?_map] at e
      cases q : os[i]? with
      | none => rw [q] at e; cases e
      | some o' =>
        rw [q] at e
        cases e
        obtain ⟨v, e1, q1⟩ := g1 i o q
        refine ⟨v, ?_, q1⟩
        unfold L2.start
        rw [List.getElem?_append_left (by rw [List.length_map, hl]; exact z), List.getElem?_map, e1]
        rfl
    · rw [List.getElem?_append_right (by rw [List.length_map]; omega), List.getElem?_replicate] at e
      split at e
      · cases e
      · cases e
  · have hj' := hr j hj
    unfold L2.start
    rw [List.getElem?_append_left (by rw [List.length_map]; exact hj'), List.getElem?_map, List.getD_eq_getElem?_getD, List.getElem?_eq_getElem hj']
    rfl
theorem refs_rep {Z : Fz} {F H : Hp} {σ : L2.St} {st : Ml.St} {fp : Nat → List Addr} (f : FrZ K T Z F H σ st fp) : ∀ {is : List Nat} {rs : List O}, is.Nodup → (∀ j ∈ is, j ∈ Z.refs) → refsOf is st = some rs → ∃ l, RepOs K T F H rs (is.map fun j => Z.vs.getD j .non) l ∧ ∀ a ∈ l, ∃ j ∈ is, a ∈ fp j
  | [], rs, _, _, h => by
    cases h
    exact ⟨[], ⟨rfl, rfl⟩, fun _ z => nomatch z⟩
  | i :: is, rs, nd, hs, h => by
    have nd' := List.nodup_cons.mp nd
    unfold refsOf at h
    split at h
    · rename_i o os h1 h2
      cases h
      obtain ⟨l, r, sl⟩ := refs_rep f nd'.2 (fun j hj => hs j (List.mem_cons_of_mem _ hj)) h2
      obtain ⟨v, e1, q⟩ := f.rep.at_ i o h1
      rw [f.ref i (hs i List.mem_cons_self)] at e1
      cases e1
      refine ⟨fp i ++ l, ⟨_, _, fp i, l, rfl, q, r, fun a ha z => ?_, rfl⟩, fun a ha => ?_⟩
      · obtain ⟨j, hj, y⟩ := sl a z
        obtain rfl := f.rep.dis i j a ha y
        exact nd'.1 hj
      · rcases List.mem_append.mp ha with z | z
        · exact ⟨i, List.mem_cons_self, z⟩
        · obtain ⟨j, hj, y⟩ := sl a z
          exact ⟨j, List.mem_cons_of_mem _ hj, y⟩
    · cases h
/-- THE RULE of a def in the language -/
theorem fn_M {x : Str} {params : Arguments} {body : List Stmt} {dvs : List V} {kws : List (Str × V)} {fd : FuncData} {ps : List Str} {i : FnI} {b : List S} (FD : FunD K x qual params body sc dvs kws f fd) (S : FnScope N ps sc) (wd : Wd K mg T M G) (fn : Fns P w K mg base T M G lim k) (fk : Fks P w K mg base T M G lim k)
    (hp : i.np = ps.length) (hr : i.refs.all (fun j => decide (j < i.np)) = true) (hd : i.refs.Nodup) (ok : okSs M lim N sc i.refs b body = true) : FnOk P w K mg base (L2.CX P w) (k + 2) f fd ps (spM K T i (runF G N.length i.refs b)) := by
  refine FD.ok (CX := L2.CX P w) S (fun vs H Q E h => ?_) (fun cdv A outer s H vs Q E room h => ?_)
  · obtain ⟨F, os, fp, _, r, e, _⟩ := h
    rw [r.length, e, hp]
  · obtain ⟨F, os, fp, sub, r, e, g⟩ := h
    have c := cs_of (outer := outer) (H := H) (E := E) wd fn fk S.nd S.kind room
    refine ⟨_, ok_Ss (G := G) (Z := ⟨i.refs, vs, F, H, fp⟩) c b body ok, ?_⟩
    have hl := r.length
    obtain ⟨fps, fr⟩ := start_rep (N := N) (refs := i.refs) sub r fun j hj => by
      have := of_decide_eq_true (List.all_eq_true.mp hr j hj)
      omega
    refine ⟨F, _, fps, fr, ?_⟩
    unfold runF at g
    have fin : ∀ {o : O} {st : Ml.St} {rs : List O}, refsOf i.refs st = some rs → (∀ v F' H' f1 fp', After F H fp F' H' → RepO K T F' H' o v f1 → RepOs K T F' H' rs (i.refs.map fun j => vs.getD j .non) fp' → (∀ a ∈ f1, a ∉ fp') → (∀ a, a ∈ f1 ∨ a ∈ fp' → a ∈ fp ∨ H a = none) → Q v H') →
        ∀ F' H' σ fp' v l, Same F F' → FrZ K T ⟨i.refs, vs, F, H, fp⟩ F' H' σ st fp' → RepO K T F' H' o v l → Alone ⟨i.refs, vs, F, H, fp⟩ fp' l → Q v H' := fun {o st rs} hrs q F' H' σ fp' v l _ f' rr al => by
      obtain ⟨l2, r2, s2⟩ := refs_rep f' hd (fun _ z => z) hrs
      refine q v F' H' l l2 f'.aft rr r2 (fun a ha z => ?_) fun a ha => ?_
      · obtain ⟨j, _, y⟩ := s2 a z
        exact (al a ha).1 j y
      · rcases ha with z | z
        · exact (al a z).2
        · obtain ⟨j, _, y⟩ := s2 a z
          exact f'.own j a y
    cases er : execs G b (os.map some ++ List.replicate (N.length - os.length) none) with
    | nx st =>
      rw [er] at g
      simp only at g
      cases hrs : refsOf i.refs st with
      | none => rw [hrs] at g; exact g.elim
      | some rs =>
        rw [hrs] at g
        exact fun F' H' σ fp' s' f' => fin hrs g F' H' σ fp' .non [] s' f' ⟨rfl, rfl⟩ fun _ z => nomatch z
    | ret o st =>
      rw [er] at g
      simp only at g
      cases hrs : refsOf i.refs st with
      | none => rw [hrs] at g; exact g.elim
      | some rs =>
        rw [hrs] at g
        exact fun F' H' σ fp' v l s' f' rr al => fin hrs g F' H' σ fp' v l s' f' rr al
    | exc x ds => rw [er] at g; exact g
    | brk st => rw [er] at g; exact g.elim
    | cnt st => rw [er] at g; exact g.elim
    | bad => rw [er] at g; exact g.elim
theorem Fns.mono {k' : Nat} (h : Fns P w K mg base T M G lim k) (hk : k ≤ k') (mono : ∀ {a fd ps sp}, FnOk P w K mg base (L2.CX P w) k a fd ps sp → FnOk P w K mg base (L2.CX P w) k' a fd ps sp) : Fns P w K mg base T M G lim k' := fun f i e z l => by
  obtain ⟨fd, ps, b, q⟩ := h f i e z l
  exact ⟨fd, ps, b, mono q⟩
end
end Ml

set_option Elab.async false
set_option linter.all false
set_option maxRecDepth 100000
set_option maxHeartbeats 4000000
/-! MH: what the text holds, off the kit's part of the heap. -/
namespace Ml
open PySem PySem.Spec PyProof.Rows L2
mutual
def repB (K : PySem.W.Frag) : D → Value → Bool
  | .non, .none => true
  | .bl b, .bool c => b == c
  | .int i, .int j _ => decide (i = j)
  | .str x, .str y _ => decide (x = y)
  | .tup ds, .ref a => (match K.lookup a with
    | some ⟨.type c, _, .seq its _, _⟩ => decide (c = "tuple") && (decide (its.size ≤ sizeLine) && repsB K ds its.toList)
    | _ => false)
  | _, _ => false
def repsB (K : PySem.W.Frag) : List D → List Value → Bool
  | [], [] => true
  | d :: ds, u :: us => repB K d u && repsB K ds us
  | _, _ => false
end
section
variable {K : PySem.W.Frag} {T : Tb}
mutual
theorem repB_ok : ∀ (d : D) (u : Value), repB K d u = true → ∃ v, RelV v u ∧ ∀ H, Rep K T H d v
  | .non, u, h => by
    cases u <;> first | (cases h; done) | exact ⟨.non, rfl, fun _ => rfl⟩
  | .bl b, u, h => by
    cases u <;> first | (cases h; done) | skip
    obtain rfl := eq_of_beq h
    exact ⟨.bl _, rfl, fun _ => rfl⟩
  | .int i, u, h => by
    cases u <;> first | (cases h; done) | skip
    have e := of_decide_eq_true h
    subst e
    exact ⟨.int _, ⟨_, rfl⟩, fun _ => rfl⟩
  | .str i, u, h => by
    cases u <;> first | (cases h; done) | skip
    have e := of_decide_eq_true h
    subst e
    exact ⟨.str _, ⟨_, rfl⟩, fun _ => rfl⟩
  | .tup ds, u, h => by
    cases u <;> first | (cases h; done) | skip
    rename_i a
    unfold repB at h
    split at h
    · rename_i c _ its n osl e
      obtain ⟨h1, h2⟩ := Bool.and_eq_true_iff.mp h
      obtain ⟨h3, h4⟩ := Bool.and_eq_true_iff.mp h2
      obtain ⟨vs, r, q⟩ := repsB_ok ds its.toList h4
      exact ⟨.ref a, rfl, fun H => ⟨a, vs, rfl, .inr ⟨_, its, n, e, congrArg Value.type (of_decide_eq_true h1), rfl, of_decide_eq_true h3, r⟩, q H⟩⟩
    · cases h
  | .lst _, u, h => by cases u <;> cases h
  | .ins _ _ _, u, h => by cases u <;> cases h
  | .fn _, u, h => by cases u <;> cases h
theorem repsB_ok : ∀ (ds : List D) (us : List Value), repsB K ds us = true → ∃ vs, Vals vs us ∧ ∀ H, Reps K T H ds vs
  | [], us, h => by
    cases us with
    | nil => exact ⟨[], .nil, fun _ => rfl⟩
    | cons _ _ => cases h
  | d :: ds, us, h => by
    cases us with
    | nil => cases h
    | cons u us =>
      obtain ⟨h1, h2⟩ := Bool.and_eq_true_iff.mp h
      obtain ⟨v, r1, q1⟩ := repB_ok d u h1
      obtain ⟨vs, r2, q2⟩ := repsB_ok ds us h2
      exact ⟨v :: vs, .cons r1 r2, fun H => ⟨v, vs, rfl, q1 H, q2 H⟩⟩
end
end
/-- where classes and defs stand, by names -/
def tbOf (K : PySem.W.Frag) (cs : List Str) (ats : List (Str × Option Str)) (nms : List Str) (xn : Nat → List Str) : Tb := ⟨fun c => He.ga K (cs.getD c ""), fun f => He.fAd K (ats.getD f ("", none)), xn, fun i => nms.getD i "", nms.length⟩
def insB (K : PySem.W.Frag) (C : Addr) : Bool := He.eqO (PySem.W.findIn K (.ref C) "__class__") (some (some (.builtin "object.__class__"))) && He.eqO (PySem.W.specialIn K (.builtin "object.__class__") "__get__") (some (some (.builtin "getset_descriptor.__get__"))) &&
  decide (PySem.W.takesIn K (.builtin "object.__class__") = some true) && decide (PySem.W.mroIn K C (.type "object") = some true)
def isB (K : PySem.W.Frag) (cs : List Str) (n : Nat) : Bool := (List.range n).all fun i => (List.range n).all fun j => decide (PySem.W.kitOne K (.ref (He.ga K (cs.getD i ""))) (.ref (He.ga K (cs.getD j ""))) = some (i == j))
def noL (K : PySem.W.Frag) : Bool := K.all fun p => !(p.2.cls == .type "list")
def conB (K : PySem.W.Frag) (x : Str) (d : D) : Bool := match PySem.W.nsIn K mainGlobals x with
  | some (some u) => repB K d u
  | _ => false
def consB (K : PySem.W.Frag) : List Str → List D → Bool
  | [], _ => true
  | x :: xs, d :: ds => conB K x d && consB K xs ds
  | _, _ => false
/-- all that the walk leans on -/
def wdB (K : PySem.W.Frag) (cs : List Str) (ats : List (Str × Option Str)) (M : Gm) (cons : List D) (fl : List (List Nat)) : Bool :=
  M.free.all (fun x => (He.Fa.free x).ok K) &&
  (List.range M.fn.length).all (fun f => match M.fn[f]? with
    | some i => !i.top || (decide (ats.getD f ("", none) = (i.name, none)) && (He.Fa.glo i.name).ok K && (He.Fa.keep i.name).ok K)
    | none => true) &&
  (List.range M.cls.length).all (fun c => match M.cls[c]? with
    | some i => decide (cs.getD c "" = i.name) && (He.Fa.glo i.name).ok K && (He.Fa.mkr i.name).ok K && i.init.all (fun f => decide (ats.getD f ("", none) = (i.name, some ("__init__" : Str))))
    | none => true) &&
  (List.range fl.length).all (fun c => (He.Fa.cls (cs.getD c "")).ok K && insB K (He.ga K (cs.getD c "")) && (fl.getD c []).all (fun f => (He.Fa.noat (cs.getD c "") (M.nms.getD f "")).ok K && decide (f < M.nms.length))) &&
  isB K cs fl.length && decide M.nms.Nodup && consB K M.con cons
section
variable {K : PySem.W.Frag} {h : Heap} {mg : Str → Option Value}
theorem all_range {n : Nat} {p : Nat → Bool} (h : (List.range n).all p = true) {i : Nat} (hi : i < n) : p i = true := List.all_eq_true.mp h i (List.mem_range.mpr hi)
theorem consB_ok {T : Tb} (X : K.In h) (G : h.Ns mainGlobals mg) : ∀ {xs : List Str} {ds : List D} {i : Nat} {x : Str}, consB K xs ds = true → xs[i]? = some x → ∃ d u v, ds[i]? = some d ∧ mg x = some u ∧ RelV v u ∧ ∀ H, Rep K T H d v
  | [], _, _, _, _, e => by simp at e
  | y :: xs, [], _, _, h, _ => by cases h
  | y :: xs, d :: ds, 0, x, h, e => by
    obtain rfl : y = x := by simpa using e
    obtain ⟨h1, _⟩ := Bool.and_eq_true_iff.mp h
    unfold conB at h1
    split at h1
    · rename_i u hu
      obtain ⟨v, r, q⟩ := repB_ok (T := T) d u h1
      exact ⟨d, u, v, rfl, PySem.W.mg_of X G hu, r, q⟩
    · cases h1
  | y :: xs, d :: ds, i + 1, x, h, e => by
    obtain ⟨_, h2⟩ := Bool.and_eq_true_iff.mp h
    obtain ⟨d', u, v, e1, q⟩ := consB_ok X G h2 (i := i) (by simpa using e)
    exact ⟨d', u, v, by simpa using e1, q⟩
theorem wd_of {cs : List Str} {ats : List (Str × Option Str)} {M : Gm} {cons : List D} {fl : List (List Nat)} {xn : Nat → List Str} {fs : Fs} (X : K.In h) (Gn : h.Ns mainGlobals mg) (c : wdB K cs ats M cons fl = true) : Wd K mg (tbOf K cs ats M.nms xn) M ⟨cons, fs, fl, M.kw⟩ := by
  unfold wdB at c
  simp only [Bool.and_eq_true] at c
  obtain ⟨⟨⟨⟨⟨⟨c1, c2⟩, c3⟩, c4⟩, c5⟩, c6⟩, c7⟩ := c
  refine ⟨fun i x e => consB_ok X Gn c7 e, fun x hx => ?_, fun f i e ht => ?_, fun k i e => ?_, fun k f e => ?_, fun i j hi hj e => ?_, fun f x e => ?_, fun k k' h1 h2 => ?_, rfl, fun k H a dx fs' hk e => ?_⟩
  · exact He.free_ok X Gn (List.all_eq_true.mp c1 x (List.contains_iff_mem.mp hx))
  · have q := all_range c2 (List.getElem?_eq_some_iff.mp e).1
    simp only [e, ht, Bool.not_true, Bool.false_or, Bool.and_eq_true, decide_eq_true_eq] at q
    obtain ⟨⟨q1, q2⟩, q3⟩ := q
    have ea : (tbOf K cs ats M.nms xn).fn f = He.ga K i.name := by
      show He.fAd K (ats.getD f ("", none)) = _
      rw [q1]
      rfl
    rw [ea]
    exact ⟨He.glo_ok X Gn q2, He.keep_ok q3⟩
  · have q := all_range c3 (List.getElem?_eq_some_iff.mp e).1
    simp only [e, Bool.and_eq_true, decide_eq_true_eq] at q
    obtain ⟨⟨⟨q1, q2⟩, q3⟩, q4⟩ := q
    have ea : (tbOf K cs ats M.nms xn).cls k = He.ga K i.name := by
      show He.ga K (cs.getD k "") = _
      rw [q1]
    rw [ea]
    refine ⟨He.glo_ok X Gn q2, fun f hf => ?_⟩
    have q5 := of_decide_eq_true (List.all_eq_true.mp q4 f hf)
    have eb : (tbOf K cs ats M.nms xn).fn f = He.ma K (He.ga K i.name) "__init__" := by
      show He.fAd K (ats.getD f ("", none)) = _
      rw [q5]
      rfl
    rw [eb]
    exact He.mkr_ok q3
  · have hk : k < fl.length := by
      rcases Nat.lt_or_ge k fl.length with z | z
      · exact z
      · unfold okF at e
        simp only [List.getD_eq_getElem?_getD, List.getElem?_eq_none z] at e
        cases e
    have q := all_range c4 hk
    simp only [Bool.and_eq_true] at q
    obtain ⟨⟨q1, q2⟩, q3⟩ := q
    have q4 := List.all_eq_true.mp q3 f (List.contains_iff_mem.mp e)
    simp only [Bool.and_eq_true, decide_eq_true_eq] at q4
    exact ⟨He.cls_ok q1, He.noat_ok q4.1, q4.2⟩
  · have nd : M.nms.Nodup := of_decide_eq_true c6
    have hi : i < M.nms.length := hi
    have hj : j < M.nms.length := hj
    have e : M.nms.getD i "" = M.nms.getD j "" := e
    rw [List.getD_eq_getElem?_getD, List.getD_eq_getElem?_getD, List.getElem?_eq_getElem hi, List.getElem?_eq_getElem hj] at e
    exact (List.getElem_inj nd).mp e
  · show M.nms.getD f "" = x
    rw [List.getD_eq_getElem?_getD, e]
    rfl
  · have q := all_range (all_range c5 h2) h1
    exact of_decide_eq_true q
  · have q := all_range c4 hk
    simp only [Bool.and_eq_true] at q
    obtain ⟨⟨q1, q2⟩, q3⟩ := q
    unfold insB at q2
    simp only [Bool.and_eq_true, decide_eq_true_eq] at q2
    exact .ins e (He.cls_ok q1) (He.eqO_ok q2.1.1.1) (He.eqO_ok q2.1.1.2) q2.1.2 q2.2
/-- one def more -/
def Gl.push (G : Gl) (n : Nat) (f : List O → Rs (O × List O)) : Gl := { G with fs := fun g os => if g = n then f os else G.fs g os }
theorem Wd.push {T : Tb} {M : Gm} {G : Gl} {n : Nat} {f : List O → Rs (O × List O)} (w : Wd K mg T M G) : Wd K mg T M (G.push n f) := ⟨w.con, w.free, w.gfn, w.made, w.fl, w.inj, w.nms, w.isc, w.kwE, w.ty⟩
theorem push_new {G : Gl} {n : Nat} {f : List O → Rs (O × List O)} : (G.push n f).fs n = f := by
  funext os
  show (if n = n then f os else G.fs n os) = f os
  rw [if_pos rfl]
theorem push_old {G : Gl} {n g : Nat} {f : List O → Rs (O × List O)} (h : g ≠ n) : (G.push n f).fs g = G.fs g := by
  funext os
  show (if g = n then f os else G.fs g os) = G.fs g os
  rw [if_neg h]
variable {P : Program} {w : World} {base : Heap} {T : Tb} {M : Gm} {G : Gl} {k k' n : Nat} {f : List O → Rs (O × List O)} {i : FnI}
theorem Fns.push (o : Fns P w K mg base T M G n k) (hk : k ≤ k') (hi : M.fn[n]? = some i) (hb : i.kwo = false → ∃ fd ps, Binds K fd ps [] ∧ FnOk P w K mg base (L2.CX P w) k' (T.fn n) fd ps (spM K T i f)) : Fns P w K mg base T M (G.push n f) (n + 1) k' := by
  intro g j hj hko hl
  by_cases z : g = n
  · subst z
    rw [hi] at hj
    cases hj
    rw [push_new]
    exact hb hko
  · obtain ⟨fd, ps, b, q⟩ := o g j hj hko (by omega)
    rw [push_old z]
    exact ⟨fd, ps, b, q.mono hk⟩
theorem Fks.push (o : Fks P w K mg base T M G n k) (hk : k ≤ k') (hi : M.fn[n]? = some i)
    (hb : ∀ (m : Nat) (κ : Kw), M.kw[m]? = some κ → κ.f = n → ∃ (fd : FuncData) (ps : List Str) (mv : List Value) (ds : List V), KBn K fd ps (κ.n + 1) κ.ks (fun us ws => pick κ.pl (us ++ (ws ++ mv))) (fun vs zs => pick κ.pl (vs ++ (zs ++ ds))) ∧ (∀ H, Reps K T H κ.ds ds) ∧
      FnOk P w K mg base (L2.CX P w) k' (T.fn n) fd ps (spM K T i f)) : Fks P w K mg base T M (G.push n f) (n + 1) k' := by
  intro m κ j hm hj hl
  by_cases z : κ.f = n
  · rw [z] at hj ⊢
    rw [hi] at hj
    cases hj
    rw [push_new]
    exact hb m κ hm z
  · obtain ⟨fd, ps, mv, ds, b, r, q⟩ := o m κ j hm hj (by omega)
    rw [push_old z]
    exact ⟨fd, ps, mv, ds, b, r, q.mono hk⟩
theorem fns_zero : Fns P w K mg base T M G 0 k := fun _ _ _ _ h => absurd h (Nat.not_lt_zero _)
theorem fks_zero : Fks P w K mg base T M G 0 k := fun _ _ _ _ _ h => absurd h (Nat.not_lt_zero _)
theorem vals_pick {vs : List V} {us : List Value} (r : Vals vs us) : ∀ {pl : List Nat}, (∀ q ∈ pl, q < vs.length) ∨ True → Vals (pick pl vs) (pick pl us)
  | [], _ => .nil
  | q :: pl, h => by
    have ih := vals_pick r (pl := pl) (.inr True.intro)
    unfold pick at ih ⊢
    rw [List.filterMap_cons, List.filterMap_cons]
    cases e : vs[q]? with
    | some v =>
      obtain ⟨u, hu, ru⟩ := r.get e
      rw [hu]
      exact .cons ru ih
    | none =>
      have : us[q]? = none := List.getElem?_eq_none (by rw [← r.length]; exact List.getElem?_eq_none_iff.mp e)
      rw [this]
      exact ih
theorem frag_mem : ∀ {K : PySem.W.Frag} {a : Addr} {o : Obj}, K.lookup a = some o → (a, o) ∈ K
  | [], a, o, h => nomatch (show (none : Option Obj) = some o from h)
  | (b, p) :: K, a, o, h => by
    have h2 : (match a == b with
      | true => some p
      | false => List.lookup a K) = some o := h
    cases q : (a == b) with
    | true =>
      rw [q] at h2
      cases h2
      rw [eq_of_beq q]
      exact List.mem_cons_self
    | false =>
      rw [q] at h2
      exact List.mem_cons_of_mem _ (frag_mem h2)
/-- the law's script -/
theorem noL_list (hn : noL K = true) {H : Hp} {a : Addr} {xs : List V} (h : SqL K H a xs) : Rd H a (.lst xs) := by
  rcases h with h | ⟨o, its, n, e, hc, _⟩
  · exact h
  · have := List.all_eq_true.mp hn (a, o) (frag_mem e)
    simp only [hc] at this
    cases this
theorem reps_ints {F : Hp} : ∀ {ns : List Int}, Reps K T F (ns.map D.int) (ns.map V.int)
  | [] => rfl
  | n :: ns => ⟨_, _, rfl, rfl, reps_ints⟩
/-- the law holds by its meaning -/
theorem law_M {H : Hp} {a : Addr} {ns : List Int} (hn : noL K = true) (hS : SqL K H a (ns.map V.int)) (hi : i.np = 1) (hr : i.refs = []) (hf : f [.fz (.lst (ns.map D.int))] = .ok (.fz (.bl true), [])) :
    spM K T i f [.ref a] H (fun v _ => v = .bl true) fun _ _ _ => False := by
  refine ⟨H, [.fz (.lst (ns.map D.int))], [], Same.refl _, ⟨_, _, [], [], rfl, ⟨⟨a, _, rfl, noL_list hn hS, reps_ints⟩, rfl⟩, ⟨rfl, rfl⟩, (fun _ z => nomatch z), rfl⟩, by rw [hi]; rfl, ?_⟩
  rw [hf]
  exact fun v F' H' f1 fp' _ r _ _ _ => r.1
end
/-- the keyword default x of the def at p, if it is an object -/
def kwAt (p : Str × Option Str) (x : Str) (K : PySem.W.Frag) : Addr := match K.lookup (He.fAd K p) with
  | some ⟨_, _, .func fd, _⟩ => (match fd.kwdefaults with
    | .ref D => (match PySem.W.nsIn K D x with
      | some (some (.ref a)) => a
      | _ => 0)
    | _ => 0)
  | _ => 0
/-! ### the Hook -/
def obsM (n : Nat) (fn : List He.DefD) (ex : PySem.W.Frag → Bool) (g : Addr → Option Obj) : He.AlD := ((He.obsD [] fn (He.frG g (He.asD g n))).1 && ex (He.frG g (He.asD g n)), (He.obsD [] fn (He.frG g (He.asD g n))).2)
def hookM (n : Nat) (fn : List He.DefD) (ex : PySem.W.Frag → Bool) : PySem.W.Hook where
  α := He.AlD
  obs := fun s => obsM n fn ex s.heap.get?
  val := fun _ => He.valD fn
  says := fun _ h => ∃ K : PySem.W.Frag, K.In h ∧ He.SaysD [] fn K ∧ ex K = true
  of := fun _ _ e => by
    have e1 := congrArg (fun z : He.AlD => z.1) e
    have e2 := congrArg (fun z : He.AlD => z.2) e
    obtain ⟨h1, h2⟩ := Bool.and_eq_true_iff.mp (show (_ && _) = true from e1)
    exact ⟨_, He.frG_in, Prod.ext h1 e2, h2⟩
  keeps := fun _ _ _ ⟨K, hK, c⟩ k => ⟨K, PySem.W.Frag.In.keeps hK k, c⟩
theorem obsM_eq {n : Nat} {fn : List He.DefD} {ex : PySem.W.Frag → Bool} {g : Addr → Option Obj} {s : Shared} (h : ∀ a, g a = s.heap.get? a) : obsM n fn ex g = (hookM n fn ex).obs s := by
  have e : g = s.heap.get? := funext h
  rw [e] <;> rfl
end Ml

set_option Elab.async false
set_option linter.all false
set_option maxRecDepth 100000
set_option maxHeartbeats 0
namespace L93
open PySem PySem.Spec PyProof.Rows L2 Ml
abbrev pr : Program := PySem.Challenge.pw_marketscleared_k93_objects_keep_copies
def top (i : Nat) : Stmt := pr.main.body.getD i (.Pass ⟨0, 0, 0, 0⟩)
def mth (i j : Nat) : Stmt := match top i with
  | .ClassDef _ _ _ b _ _ _ _ _ _ _ => b.getD j (.Pass ⟨0, 0, 0, 0⟩)
  | _ => .Pass ⟨0, 0, 0, 0⟩
def cons : List D := [.tup [.int 0, .int 1]]
def fl : List (List Nat) := [[12, 3, 1, 13, 14, 15, 16, 9, 11, 10], [7, 8, 5, 6], [11, 9, 10], [3, 1, 2]]
def kws : List Kw := [⟨5, 1, ["prices"], [0, 1, 2, 3, 4, 5, 6, 7, 8, 9, 10], [.tup [], .tup [], .tup [], .tup [], .tup [], .tup [], .tup [.int 0, .int 1], .tup []]⟩, ⟨6, 1, ["sharing"], [0, 1, 3, 2, 4, 5, 6, 7, 8, 9, 10], [.tup [], .tup [], .tup [], .tup [], .tup [], .tup [], .tup [.int 0, .int 1], .tup []]⟩, ⟨7, 1, ["other"], [0, 1, 3, 4, 2, 5, 6, 7, 8, 9, 10], [.tup [], .tup [], .tup [], .tup [], .tup [], .tup [], .tup [.int 0, .int 1], .tup []]⟩, ⟨8, 1, ["people"], [0, 1, 3, 4, 5, 2, 6, 7, 8, 9, 10], [.tup [], .tup [], .tup [], .tup [], .tup [], .tup [], .tup [.int 0, .int 1], .tup []]⟩, ⟨9, 1, ["goods"], [0, 1, 3, 4, 5, 6, 2, 7, 8, 9, 10], [.tup [], .tup [], .tup [], .tup [], .tup [], .tup [], .tup [.int 0, .int 1], .tup []]⟩, ⟨10, 1, ["targets"], [0, 1, 3, 4, 5, 6, 7, 2, 8, 9, 10], [.tup [], .tup [], .tup [], .tup [], .tup [], .tup [], .tup [.int 0, .int 1], .tup []]⟩, ⟨11, 1, ["weights"], [0, 1, 3, 4, 5, 6, 7, 8, 2, 9, 10], [.tup [], .tup [], .tup [], .tup [], .tup [], .tup [], .tup [.int 0, .int 1], .tup []]⟩, ⟨12, 1, ["factor"], [0, 1, 3, 4, 5, 6, 7, 8, 9, 2, 10], [.tup [], .tup [], .tup [], .tup [], .tup [], .tup [], .tup [], .tup []]⟩, ⟨13, 1, ["offer"], [0, 1, 3, 4, 5, 6, 7, 8, 9, 10, 2], [.tup [], .tup [], .tup [], .tup [], .tup [], .tup [], .tup [], .tup [.int 0, .int 1]]⟩, ⟨14, 1, [], [0, 1, 2, 3, 4, 5, 6, 7, 8, 9, 10], [.tup [], .tup [], .tup [], .tup [], .tup [], .tup [], .tup [], .tup [.int 0, .int 1], .tup []]⟩, ⟨14, 1, ["offer", "factor", "weights", "targets", "goods", "people", "other", "sharing", "prices"], [0, 1, 10, 9, 8, 7, 6, 5, 4, 3, 2], []⟩]
def M : Gm where
  con := ["ZERO"]
  fn := [⟨true, "frozen", 1, [0], false⟩, ⟨false, "__init__", 4, [0, 1, 2, 3], false⟩, ⟨false, "__init__", 5, [0, 2, 3, 4], false⟩, ⟨false, "__init__", 4, [0, 2, 3], false⟩, ⟨false, "__init__", 4, [0], false⟩, ⟨false, "__init__", 11, [0, 2], true⟩, ⟨false, "__init__", 11, [0, 3], true⟩, ⟨false, "__init__", 11, [0, 4], true⟩, ⟨false, "__init__", 11, [0, 5], true⟩, ⟨false, "__init__", 11, [0, 6], true⟩, ⟨false, "__init__", 11, [0, 7], true⟩, ⟨false, "__init__", 11, [0, 8], true⟩, ⟨false, "__init__", 11, [0, 9], true⟩, ⟨false, "__init__", 11, [0, 10], true⟩, ⟨false, "__init__", 11, [0], true⟩, ⟨true, "_law_cell", 2, [], false⟩, ⟨true, "_law_digits", 3, [], false⟩, ⟨true, "_law_gcd", 2, [], false⟩, ⟨true, "_law_lowest", 2, [], false⟩, ⟨true, "_law_is_integer", 1, [], false⟩, ⟨true, "_law_same", 2, [], false⟩, ⟨true, "_law_value", 2, [], false⟩, ⟨true, "_law_row_of", 3, [], false⟩, ⟨true, "_law_rows_of", 6, [], false⟩, ⟨true, "_law_numbers_of", 1, [], false⟩, ⟨true, "_law_kept", 2, [], false⟩, ⟨true, "_law_kept_rows", 2, [], false⟩, ⟨true, "_law_kept_numbers", 2, [], false⟩, ⟨true, "_law_copied", 1, [], false⟩, ⟨true, "_law_frozen", 1, [], false⟩, ⟨true, "_law_spoil", 1, [0], false⟩, ⟨true, "_law_clearing_right", 4, [], false⟩, ⟨true, "_law_clearing", 3, [], false⟩, ⟨true, "_law_flow", 4, [], false⟩, ⟨true, "_law_factor", 3, [], false⟩, ⟨true, "_law_paper", 3, [2], false⟩, ⟨true, "_law_fields", 3, [], false⟩, ⟨true, "_law_one_field", 3, [], false⟩, ⟨true, "_law_all_fields", 2, [], false⟩, ⟨true, "law", 1, [], false⟩]
  free := ["len", "int", "abs", "tuple", "list", "isinstance", "range", "bool", "str"]
  cls := [⟨"Paper", [5, 6, 7, 8, 9, 10, 11, 12, 13, 14]⟩, ⟨"Flow", [2]⟩, ⟨"LotFactor", [3]⟩, ⟨"Clearing", [1, 4]⟩]
  nms := ["append", "sharing", "totals", "prices", "insert", "lefts", "rights", "total", "amounts", "weights", "offer", "factor", "kind", "other", "people", "goods", "targets"]
  kw := kws
/-! 0: frozen [0] -/
def N0 : List Str := ["rows", "row"]
def c0 : List S := [.ret (.bi .tuple [.lc (.bi .tuple [.v 1]) (.nm 1) 0 [.v 0] []])]
theorem ok0 : okSs M 0 N0 (defScope (top 1)) [0] c0 (defBody (top 1)) = true := by kernel_rfl
theorem sc0 : FnScope N0 ["rows"] (defScope (top 1)) := ⟨by kernel_rfl, by kernel_rfl, by kernel_rfl, by decide +kernel, by kernel_rfl, by decide +kernel, by decide +kernel⟩
/-! 1: Clearing.__init__ [0, 1, 2, 3] -/
def N1 : List Str := ["self", "prices", "sharing", "totals"]
def c1 : List S := [.setf 0 3 (.bi .tuple [.v 1]), .setC 0 1 (.fn 0) [.r 2], .setf 0 2 (.bi .tuple [.v 3])]
theorem ok1 : okSs M 1 N1 (defScope (mth 10 0)) [0, 1, 2, 3] c1 (defBody (mth 10 0)) = true := by kernel_rfl
theorem sc1 : FnScope N1 ["self", "prices", "sharing", "totals"] (defScope (mth 10 0)) := ⟨by kernel_rfl, by kernel_rfl, by kernel_rfl, by decide +kernel, by kernel_rfl, by decide +kernel, by decide +kernel⟩
/-! 2: Flow.__init__ [0, 2, 3, 4] -/
def N2 : List Str := ["self", "total", "amounts", "lefts", "rights"]
def c2 : List S := [.setf 0 7 (.v 1), .setC 0 8 (.fn 0) [.r 2], .setf 0 5 (.bi .tuple [.v 3]), .setf 0 6 (.bi .tuple [.v 4])]
theorem ok2 : okSs M 2 N2 (defScope (mth 6 0)) [0, 2, 3, 4] c2 (defBody (mth 6 0)) = true := by kernel_rfl
theorem sc2 : FnScope N2 ["self", "total", "amounts", "lefts", "rights"] (defScope (mth 6 0)) := ⟨by kernel_rfl, by kernel_rfl, by kernel_rfl, by decide +kernel, by kernel_rfl, by decide +kernel, by decide +kernel⟩
/-! 3: LotFactor.__init__ [0, 2, 3] -/
def N3 : List Str := ["self", "factor", "weights", "offer"]
def c3 : List S := [.setf 0 11 (.v 1), .setf 0 9 (.bi .tuple [.v 2]), .setC 0 10 (.fn 0) [.r 3]]
theorem ok3 : okSs M 3 N3 (defScope (mth 8 0)) [0, 2, 3] c3 (defBody (mth 8 0)) = true := by kernel_rfl
theorem sc3 : FnScope N3 ["self", "factor", "weights", "offer"] (defScope (mth 8 0)) := ⟨by kernel_rfl, by kernel_rfl, by kernel_rfl, by decide +kernel, by kernel_rfl, by decide +kernel, by decide +kernel⟩
/-! 4: Clearing.__init__ [0] -/
def N4 : List Str := ["self", "prices", "sharing", "totals"]
def c4 : List S := [.setf 0 3 (.bi .tuple [.v 1]), .setC 0 1 (.fn 0) [.r 2], .setf 0 2 (.bi .tuple [.v 3])]
theorem ok4 : okSs M 4 N4 (defScope (mth 10 0)) [0] c4 (defBody (mth 10 0)) = true := by kernel_rfl
theorem sc4 : FnScope N4 ["self", "prices", "sharing", "totals"] (defScope (mth 10 0)) := ⟨by kernel_rfl, by kernel_rfl, by kernel_rfl, by decide +kernel, by kernel_rfl, by decide +kernel, by decide +kernel⟩
/-! 5: Paper.__init__ [0, 2] -/
def N5 : List Str := ["self", "kind", "prices", "sharing", "other", "people", "goods", "targets", "weights", "factor", "offer"]
def c5 : List S := [.setf 0 12 (.v 1), .setf 0 3 (.bi .tuple [.v 2]), .setC 0 1 (.fn 0) [.r 3], .setC 0 13 (.fn 0) [.r 4], .setf 0 14 (.bi .tuple [.v 5]), .setf 0 15 (.bi .tuple [.v 6]), .setf 0 16 (.bi .tuple [.v 7]), .setf 0 9 (.bi .tuple [.v 8]), .setf 0 11 (.v 9), .setC 0 10 (.fn 0) [.r 10]]
theorem ok5 : okSs M 5 N5 (defScope (mth 4 0)) [0, 2] c5 (defBody (mth 4 0)) = true := by kernel_rfl
theorem sc5 : FnScope N5 ["self", "kind", "prices", "sharing", "other", "people", "goods", "targets", "weights", "factor", "offer"] (defScope (mth 4 0)) := ⟨by kernel_rfl, by kernel_rfl, by kernel_rfl, by decide +kernel, by kernel_rfl, by decide +kernel, by decide +kernel⟩
/-! 6: Paper.__init__ [0, 3] -/
def N6 : List Str := ["self", "kind", "prices", "sharing", "other", "people", "goods", "targets", "weights", "factor", "offer"]
def c6 : List S := [.setf 0 12 (.v 1), .setf 0 3 (.bi .tuple [.v 2]), .setC 0 1 (.fn 0) [.r 3], .setC 0 13 (.fn 0) [.r 4], .setf 0 14 (.bi .tuple [.v 5]), .setf 0 15 (.bi .tuple [.v 6]), .setf 0 16 (.bi .tuple [.v 7]), .setf 0 9 (.bi .tuple [.v 8]), .setf 0 11 (.v 9), .setC 0 10 (.fn 0) [.r 10]]
theorem ok6 : okSs M 6 N6 (defScope (mth 4 0)) [0, 3] c6 (defBody (mth 4 0)) = true := by kernel_rfl
theorem sc6 : FnScope N6 ["self", "kind", "prices", "sharing", "other", "people", "goods", "targets", "weights", "factor", "offer"] (defScope (mth 4 0)) := ⟨by kernel_rfl, by kernel_rfl, by kernel_rfl, by decide +kernel, by kernel_rfl, by decide +kernel, by decide +kernel⟩
/-! 7: Paper.__init__ [0, 4] -/
def N7 : List Str := ["self", "kind", "prices", "sharing", "other", "people", "goods", "targets", "weights", "factor", "offer"]
def c7 : List S := [.setf 0 12 (.v 1), .setf 0 3 (.bi .tuple [.v 2]), .setC 0 1 (.fn 0) [.r 3], .setC 0 13 (.fn 0) [.r 4], .setf 0 14 (.bi .tuple [.v 5]), .setf 0 15 (.bi .tuple [.v 6]), .setf 0 16 (.bi .tuple [.v 7]), .setf 0 9 (.bi .tuple [.v 8]), .setf 0 11 (.v 9), .setC 0 10 (.fn 0) [.r 10]]
theorem ok7 : okSs M 7 N7 (defScope (mth 4 0)) [0, 4] c7 (defBody (mth 4 0)) = true := by kernel_rfl
theorem sc7 : FnScope N7 ["self", "kind", "prices", "sharing", "other", "people", "goods", "targets", "weights", "factor", "offer"] (defScope (mth 4 0)) := ⟨by kernel_rfl, by kernel_rfl, by kernel_rfl, by decide +kernel, by kernel_rfl, by decide +kernel, by decide +kernel⟩
/-! 8: Paper.__init__ [0, 5] -/
def N8 : List Str := ["self", "kind", "prices", "sharing", "other", "people", "goods", "targets", "weights", "factor", "offer"]
def c8 : List S := [.setf 0 12 (.v 1), .setf 0 3 (.bi .tuple [.v 2]), .setC 0 1 (.fn 0) [.r 3], .setC 0 13 (.fn 0) [.r 4], .setf 0 14 (.bi .tuple [.v 5]), .setf 0 15 (.bi .tuple [.v 6]), .setf 0 16 (.bi .tuple [.v 7]), .setf 0 9 (.bi .tuple [.v 8]), .setf 0 11 (.v 9), .setC 0 10 (.fn 0) [.r 10]]
theorem ok8 : okSs M 8 N8 (defScope (mth 4 0)) [0, 5] c8 (defBody (mth 4 0)) = true := by kernel_rfl
theorem sc8 : FnScope N8 ["self", "kind", "prices", "sharing", "other", "people", "goods", "targets", "weights", "factor", "offer"] (defScope (mth 4 0)) := ⟨by kernel_rfl, by kernel_rfl, by kernel_rfl, by decide +kernel, by kernel_rfl, by decide +kernel, by decide +kernel⟩
/-! 9: Paper.__init__ [0, 6] -/
def N9 : List Str := ["self", "kind", "prices", "sharing", "other", "people", "goods", "targets", "weights", "factor", "offer"]
def c9 : List S := [.setf 0 12 (.v 1), .setf 0 3 (.bi .tuple [.v 2]), .setC 0 1 (.fn 0) [.r 3], .setC 0 13 (.fn 0) [.r 4], .setf 0 14 (.bi .tuple [.v 5]), .setf 0 15 (.bi .tuple [.v 6]), .setf 0 16 (.bi .tuple [.v 7]), .setf 0 9 (.bi .tuple [.v 8]), .setf 0 11 (.v 9), .setC 0 10 (.fn 0) [.r 10]]
theorem ok9 : okSs M 9 N9 (defScope (mth 4 0)) [0, 6] c9 (defBody (mth 4 0)) = true := by kernel_rfl
theorem sc9 : FnScope N9 ["self", "kind", "prices", "sharing", "other", "people", "goods", "targets", "weights", "factor", "offer"] (defScope (mth 4 0)) := ⟨by kernel_rfl, by kernel_rfl, by kernel_rfl, by decide +kernel, by kernel_rfl, by decide +kernel, by decide +kernel⟩
/-! 10: Paper.__init__ [0, 7] -/
def N10 : List Str := ["self", "kind", "prices", "sharing", "other", "people", "goods", "targets", "weights", "factor", "offer"]
def c10 : List S := [.setf 0 12 (.v 1), .setf 0 3 (.bi .tuple [.v 2]), .setC 0 1 (.fn 0) [.r 3], .setC 0 13 (.fn 0) [.r 4], .setf 0 14 (.bi .tuple [.v 5]), .setf 0 15 (.bi .tuple [.v 6]), .setf 0 16 (.bi .tuple [.v 7]), .setf 0 9 (.bi .tuple [.v 8]), .setf 0 11 (.v 9), .setC 0 10 (.fn 0) [.r 10]]
theorem ok10 : okSs M 10 N10 (defScope (mth 4 0)) [0, 7] c10 (defBody (mth 4 0)) = true := by kernel_rfl
theorem sc10 : FnScope N10 ["self", "kind", "prices", "sharing", "other", "people", "goods", "targets", "weights", "factor", "offer"] (defScope (mth 4 0)) := ⟨by kernel_rfl, by kernel_rfl, by kernel_rfl, by decide +kernel, by kernel_rfl, by decide +kernel, by decide +kernel⟩
/-! 11: Paper.__init__ [0, 8] -/
def N11 : List Str := ["self", "kind", "prices", "sharing", "other", "people", "goods", "targets", "weights", "factor", "offer"]
def c11 : List S := [.setf 0 12 (.v 1), .setf 0 3 (.bi .tuple [.v 2]), .setC 0 1 (.fn 0) [.r 3], .setC 0 13 (.fn 0) [.r 4], .setf 0 14 (.bi .tuple [.v 5]), .setf 0 15 (.bi .tuple [.v 6]), .setf 0 16 (.bi .tuple [.v 7]), .setf 0 9 (.bi .tuple [.v 8]), .setf 0 11 (.v 9), .setC 0 10 (.fn 0) [.r 10]]
theorem ok11 : okSs M 11 N11 (defScope (mth 4 0)) [0, 8] c11 (defBody (mth 4 0)) = true := by kernel_rfl
theorem sc11 : FnScope N11 ["self", "kind", "prices", "sharing", "other", "people", "goods", "targets", "weights", "factor", "offer"] (defScope (mth 4 0)) := ⟨by kernel_rfl, by kernel_rfl, by kernel_rfl, by decide +kernel, by kernel_rfl, by decide +kernel, by decide +kernel⟩
/-! 12: Paper.__init__ [0, 9] -/
def N12 : List Str := ["self", "kind", "prices", "sharing", "other", "people", "goods", "targets", "weights", "factor", "offer"]
def c12 : List S := [.setf 0 12 (.v 1), .setf 0 3 (.bi .tuple [.v 2]), .setC 0 1 (.fn 0) [.r 3], .setC 0 13 (.fn 0) [.r 4], .setf 0 14 (.bi .tuple [.v 5]), .setf 0 15 (.bi .tuple [.v 6]), .setf 0 16 (.bi .tuple [.v 7]), .setf 0 9 (.bi .tuple [.v 8]), .setf 0 11 (.v 9), .setC 0 10 (.fn 0) [.r 10]]
theorem ok12 : okSs M 12 N12 (defScope (mth 4 0)) [0, 9] c12 (defBody (mth 4 0)) = true := by kernel_rfl
theorem sc12 : FnScope N12 ["self", "kind", "prices", "sharing", "other", "people", "goods", "targets", "weights", "factor", "offer"] (defScope (mth 4 0)) := ⟨by kernel_rfl, by kernel_rfl, by kernel_rfl, by decide +kernel, by kernel_rfl, by decide +kernel, by decide +kernel⟩
/-! 13: Paper.__init__ [0, 10] -/
def N13 : List Str := ["self", "kind", "prices", "sharing", "other", "people", "goods", "targets", "weights", "factor", "offer"]
def c13 : List S := [.setf 0 12 (.v 1), .setf 0 3 (.bi .tuple [.v 2]), .setC 0 1 (.fn 0) [.r 3], .setC 0 13 (.fn 0) [.r 4], .setf 0 14 (.bi .tuple [.v 5]), .setf 0 15 (.bi .tuple [.v 6]), .setf 0 16 (.bi .tuple [.v 7]), .setf 0 9 (.bi .tuple [.v 8]), .setf 0 11 (.v 9), .setC 0 10 (.fn 0) [.r 10]]
theorem ok13 : okSs M 13 N13 (defScope (mth 4 0)) [0, 10] c13 (defBody (mth 4 0)) = true := by kernel_rfl
theorem sc13 : FnScope N13 ["self", "kind", "prices", "sharing", "other", "people", "goods", "targets", "weights", "factor", "offer"] (defScope (mth 4 0)) := ⟨by kernel_rfl, by kernel_rfl, by kernel_rfl, by decide +kernel, by kernel_rfl, by decide +kernel, by decide +kernel⟩
/-! 14: Paper.__init__ [0] -/
def N14 : List Str := ["self", "kind", "prices", "sharing", "other", "people", "goods", "targets", "weights", "factor", "offer"]
def c14 : List S := [.setf 0 12 (.v 1), .setf 0 3 (.bi .tuple [.v 2]), .setC 0 1 (.fn 0) [.r 3], .setC 0 13 (.fn 0) [.r 4], .setf 0 14 (.bi .tuple [.v 5]), .setf 0 15 (.bi .tuple [.v 6]), .setf 0 16 (.bi .tuple [.v 7]), .setf 0 9 (.bi .tuple [.v 8]), .setf 0 11 (.v 9), .setC 0 10 (.fn 0) [.r 10]]
theorem ok14 : okSs M 14 N14 (defScope (mth 4 0)) [0] c14 (defBody (mth 4 0)) = true := by kernel_rfl
theorem sc14 : FnScope N14 ["self", "kind", "prices", "sharing", "other", "people", "goods", "targets", "weights", "factor", "offer"] (defScope (mth 4 0)) := ⟨by kernel_rfl, by kernel_rfl, by kernel_rfl, by decide +kernel, by kernel_rfl, by decide +kernel, by decide +kernel⟩
/-! 15: _law_cell [] -/
def N15 : List Str := ["script", "k"]
def c15 : List S := [.ite (.o2 .lt (.v 1) (.bi .len [.v 0])) [.ret (.ix (.v 0) (.v 1))] [], .ret (.k (.int 0))]
theorem ok15 : okSs M 15 N15 (defScope (top 12)) [] c15 (defBody (top 12)) = true := by kernel_rfl
theorem sc15 : FnScope N15 ["script", "k"] (defScope (top 12)) := ⟨by kernel_rfl, by kernel_rfl, by kernel_rfl, by decide +kernel, by kernel_rfl, by decide +kernel, by decide +kernel⟩
/-! 16: _law_digits [] -/
def N16 : List Str := ["cell", "base", "count", "row", "rest", "t"]
def b16_0 : List S := [.ite (.o2 .ge (.v 0) (.o2 .pow (.k (.int 10)) (.k (.int 18)))) [.mut 3 [] .app [.o2 .mod (.bi .int_ [.v 4]) (.v 1)], .asg true (.nm 4) (.o2 .fdiv (.v 4) (.v 1))] [.asg true (.nm 4) (.o2 .mod (.o2 .add (.o2 .add (.o2 .mul (.bi .int_ [.v 4]) (.k (.int 48271))) (.o2 .mul (.k (.int 69621)) (.v 5))) (.k (.int 1009))) (.k (.int 2147483647))), .asg true (.nm 4) (.o2 .mod (.o2 .add (.o2 .add (.o2 .mul (.bi .int_ [.v 4]) (.k (.int 16807))) (.o2 .mul (.k (.int 40014)) (.v 5))) (.k (.int 7))) (.k (.int 2147483629))), .mut 3 [] .app [.o2 .mod (.bi .int_ [.o2 .fdiv (.v 4) (.k (.int 11))]) (.v 1)]]]
def c16 : List S := [.asg false (.nm 3) (.lst []), .asg true (.nm 4) (.v 0), .for_ (.nm 5) 1 [.v 2] b16_0, .ret (.v 3)]
theorem ok16 : okSs M 16 N16 (defScope (top 13)) [] c16 (defBody (top 13)) = true := by kernel_rfl
theorem sc16 : FnScope N16 ["cell", "base", "count"] (defScope (top 13)) := ⟨by kernel_rfl, by kernel_rfl, by kernel_rfl, by decide +kernel, by kernel_rfl, by decide +kernel, by decide +kernel⟩
/-! 17: _law_gcd [] -/
def N17 : List Str := ["first", "second", "k", "rest"]
def b17_0 : List S := [.ite (.o2 .eq (.v 1) (.k (.int 0))) [.brk] [], .asg true (.nm 3) (.o2 .mod (.bi .int_ [.v 0]) (.v 1)), .asg true (.nm 0) (.v 1), .asg true (.nm 1) (.v 3)]
def c17 : List S := [.for_ (.nm 2) 1 [.k (.int 2000)] b17_0, .ret (.v 0)]
theorem ok17 : okSs M 17 N17 (defScope (top 14)) [] c17 (defBody (top 14)) = true := by kernel_rfl
theorem sc17 : FnScope N17 ["first", "second"] (defScope (top 14)) := ⟨by kernel_rfl, by kernel_rfl, by kernel_rfl, by decide +kernel, by kernel_rfl, by decide +kernel, by decide +kernel⟩
/-! 18: _law_lowest [] -/
def N18 : List Str := ["num", "den", "common"]
def c18 : List S := [.asg true (.nm 2) (.call 17 [.bi .abs [.v 0], .v 1]), .ret (.tup [.o2 .fdiv (.v 0) (.v 2), .o2 .fdiv (.v 1) (.v 2)])]
theorem ok18 : okSs M 18 N18 (defScope (top 15)) [] c18 (defBody (top 15)) = true := by kernel_rfl
theorem sc18 : FnScope N18 ["num", "den"] (defScope (top 15)) := ⟨by kernel_rfl, by kernel_rfl, by kernel_rfl, by decide +kernel, by kernel_rfl, by decide +kernel, by decide +kernel⟩
/-! 19: _law_is_integer [] -/
def N19 : List Str := ["value"]
def c19 : List S := [.ret (.and (.is1 (.isi ["int"]) (.v 0)) (.not (.is1 (.isi ["bool"]) (.v 0))))]
theorem ok19 : okSs M 19 N19 (defScope (top 16)) [] c19 (defBody (top 16)) = true := by kernel_rfl
theorem sc19 : FnScope N19 ["value"] (defScope (top 16)) := ⟨by kernel_rfl, by kernel_rfl, by kernel_rfl, by decide +kernel, by kernel_rfl, by decide +kernel, by decide +kernel⟩
/-! 20: _law_same [] -/
def N20 : List Str := ["value", "due"]
def c20 : List S := [.ite (.or (.not (.e (.is1 (.isi ["tuple"]) (.v 0)))) (.o2 .ne (.bi .len [.v 0]) (.k (.int 2)))) [.ret (.k (.bl false))] [], .ite (.or (.not (.e (.call 19 [.ix (.v 0) (.k (.int 0))]))) (.not (.e (.call 19 [.ix (.v 0) (.k (.int 1))])))) [.ret (.k (.bl false))] [], .ret (.and (.o2 .eq (.ix (.v 0) (.k (.int 0))) (.ix (.v 1) (.k (.int 0)))) (.o2 .eq (.ix (.v 0) (.k (.int 1))) (.ix (.v 1) (.k (.int 1)))))]
theorem ok20 : okSs M 20 N20 (defScope (top 17)) [] c20 (defBody (top 17)) = true := by kernel_rfl
theorem sc20 : FnScope N20 ["value", "due"] (defScope (top 17)) := ⟨by kernel_rfl, by kernel_rfl, by kernel_rfl, by decide +kernel, by kernel_rfl, by decide +kernel, by decide +kernel⟩
/-! 21: _law_value [] -/
def N21 : List Str := ["digits", "wide"]
def c21 : List S := [.ite (.e (.v 1)) [.ret (.call 18 [.o2 .add (.ix (.v 0) (.k (.int 0))) (.o2 .mul (.k (.int 1000000)) (.ix (.v 0) (.k (.int 1)))), .o2 .add (.o2 .add (.k (.int 1)) (.ix (.v 0) (.k (.int 2)))) (.o2 .mul (.k (.int 999999)) (.ix (.v 0) (.k (.int 3))))])] [], .ret (.call 18 [.o2 .sub (.o2 .mod (.bi .int_ [.ix (.v 0) (.k (.int 0))]) (.k (.int 16))) (.k (.int 6)), .o2 .add (.k (.int 1)) (.o2 .mod (.bi .int_ [.ix (.v 0) (.k (.int 1))]) (.k (.int 4)))])]
theorem ok21 : okSs M 21 N21 (defScope (top 18)) [] c21 (defBody (top 18)) = true := by kernel_rfl
theorem sc21 : FnScope N21 ["digits", "wide"] (defScope (top 18)) := ⟨by kernel_rfl, by kernel_rfl, by kernel_rfl, by decide +kernel, by kernel_rfl, by decide +kernel, by decide +kernel⟩
/-! 22: _law_row_of [] -/
def N22 : List Str := ["cell", "count", "wide", "digits", "k"]
def c22 : List S := [.asg true (.nm 3) (.call 16 [.v 0, .k (.int 1000000), .o2 .mul (.k (.int 4)) (.v 1)]), .ret (.lc (.call 21 [.sl (.v 3) [.o2 .mul (.k (.int 4)) (.v 4)] [.o2 .add (.o2 .mul (.k (.int 4)) (.v 4)) (.k (.int 4))], .v 2]) (.nm 4) 1 [.v 1] [])]
theorem ok22 : okSs M 22 N22 (defScope (top 19)) [] c22 (defBody (top 19)) = true := by kernel_rfl
theorem sc22 : FnScope N22 ["cell", "count", "wide"] (defScope (top 19)) := ⟨by kernel_rfl, by kernel_rfl, by kernel_rfl, by decide +kernel, by kernel_rfl, by decide +kernel, by decide +kernel⟩
/-! 23: _law_rows_of [] -/
def N23 : List Str := ["script", "at", "count", "width", "loose", "wide", "rows", "i", "size"]
def b23_0 : List S := [.asg true (.nm 8) (.v 3), .ite (.e (.v 4)) [.asg true (.nm 8) (.o2 .mod (.bi .int_ [.o2 .add (.v 3) (.v 7)]) (.k (.int 5)))] [], .mut 6 [] .app [.call 22 [.call 15 [.v 0, .o2 .add (.v 1) (.v 7)], .v 8, .v 5]]]
def c23 : List S := [.asg false (.nm 6) (.lst []), .for_ (.nm 7) 1 [.v 2] b23_0, .ret (.v 6)]
theorem ok23 : okSs M 23 N23 (defScope (top 20)) [] c23 (defBody (top 20)) = true := by kernel_rfl
theorem sc23 : FnScope N23 ["script", "at", "count", "width", "loose", "wide"] (defScope (top 20)) := ⟨by kernel_rfl, by kernel_rfl, by kernel_rfl, by decide +kernel, by kernel_rfl, by decide +kernel, by decide +kernel⟩
/-! 24: _law_numbers_of [] -/
def N24 : List Str := ["cell", "digits", "digit"]
def c24 : List S := [.asg true (.nm 1) (.call 16 [.v 0, .k (.int 1000), .k (.int 5)]), .ret (.lc (.o2 .mod (.bi .int_ [.v 2]) (.k (.int 6))) (.nm 2) 0 [.sl (.v 1) [] [.o2 .mod (.bi .int_ [.ix (.v 1) (.k (.int 4))]) (.k (.int 5))]] [])]
theorem ok24 : okSs M 24 N24 (defScope (top 21)) [] c24 (defBody (top 21)) = true := by kernel_rfl
theorem sc24 : FnScope N24 ["cell"] (defScope (top 21)) := ⟨by kernel_rfl, by kernel_rfl, by kernel_rfl, by decide +kernel, by kernel_rfl, by decide +kernel, by decide +kernel⟩
/-! 25: _law_kept [] -/
def N25 : List Str := ["row", "due", "k"]
def b25_0 : List S := [.ite (.not (.e (.call 20 [.ix (.v 0) (.v 2), .ix (.v 1) (.v 2)]))) [.ret (.k (.bl false))] []]
def c25 : List S := [.ite (.or (.not (.e (.is1 (.isi ["tuple"]) (.v 0)))) (.o2 .ne (.bi .len [.v 0]) (.bi .len [.v 1]))) [.ret (.k (.bl false))] [], .for_ (.nm 2) 1 [.bi .len [.v 1]] b25_0, .ret (.k (.bl true))]
theorem ok25 : okSs M 25 N25 (defScope (top 22)) [] c25 (defBody (top 22)) = true := by kernel_rfl
theorem sc25 : FnScope N25 ["row", "due"] (defScope (top 22)) := ⟨by kernel_rfl, by kernel_rfl, by kernel_rfl, by decide +kernel, by kernel_rfl, by decide +kernel, by decide +kernel⟩
/-! 26: _law_kept_rows [] -/
def N26 : List Str := ["rows", "due", "k"]
def b26_0 : List S := [.ite (.not (.e (.call 25 [.ix (.v 0) (.v 2), .ix (.v 1) (.v 2)]))) [.ret (.k (.bl false))] []]
def c26 : List S := [.ite (.or (.not (.e (.is1 (.isi ["tuple"]) (.v 0)))) (.o2 .ne (.bi .len [.v 0]) (.bi .len [.v 1]))) [.ret (.k (.bl false))] [], .for_ (.nm 2) 1 [.bi .len [.v 1]] b26_0, .ret (.k (.bl true))]
theorem ok26 : okSs M 26 N26 (defScope (top 23)) [] c26 (defBody (top 23)) = true := by kernel_rfl
theorem sc26 : FnScope N26 ["rows", "due"] (defScope (top 23)) := ⟨by kernel_rfl, by kernel_rfl, by kernel_rfl, by decide +kernel, by kernel_rfl, by decide +kernel, by decide +kernel⟩
/-! 27: _law_kept_numbers [] -/
def N27 : List Str := ["row", "due", "k"]
def b27_0 : List S := [.ite (.or (.not (.e (.call 19 [.ix (.v 0) (.v 2)]))) (.o2 .ne (.ix (.v 0) (.v 2)) (.ix (.v 1) (.v 2)))) [.ret (.k (.bl false))] []]
def c27 : List S := [.ite (.or (.not (.e (.is1 (.isi ["tuple"]) (.v 0)))) (.o2 .ne (.bi .len [.v 0]) (.bi .len [.v 1]))) [.ret (.k (.bl false))] [], .for_ (.nm 2) 1 [.bi .len [.v 1]] b27_0, .ret (.k (.bl true))]
theorem ok27 : okSs M 27 N27 (defScope (top 24)) [] c27 (defBody (top 24)) = true := by kernel_rfl
theorem sc27 : FnScope N27 ["row", "due"] (defScope (top 24)) := ⟨by kernel_rfl, by kernel_rfl, by kernel_rfl, by decide +kernel, by kernel_rfl, by decide +kernel, by decide +kernel⟩
/-! 28: _law_copied [] -/
def N28 : List Str := ["rows", "row"]
def c28 : List S := [.ret (.lc (.bi .list [.v 1]) (.nm 1) 0 [.v 0] [])]
theorem ok28 : okSs M 28 N28 (defScope (top 25)) [] c28 (defBody (top 25)) = true := by kernel_rfl
theorem sc28 : FnScope N28 ["rows"] (defScope (top 25)) := ⟨by kernel_rfl, by kernel_rfl, by kernel_rfl, by decide +kernel, by kernel_rfl, by decide +kernel, by decide +kernel⟩
/-! 29: _law_frozen [] -/
def N29 : List Str := ["rows", "row"]
def c29 : List S := [.ret (.bi .tuple [.lc (.bi .tuple [.v 1]) (.nm 1) 0 [.v 0] []])]
theorem ok29 : okSs M 29 N29 (defScope (top 26)) [] c29 (defBody (top 26)) = true := by kernel_rfl
theorem sc29 : FnScope N29 ["rows"] (defScope (top 26)) := ⟨by kernel_rfl, by kernel_rfl, by kernel_rfl, by decide +kernel, by kernel_rfl, by decide +kernel, by decide +kernel⟩
/-! 30: _law_spoil [0] -/
def N30 : List Str := ["rows", "row"]
def c30 : List S := [.each 0 1 (.tup [.k (.int 1), .k (.int 1)]), .mut 0 [] .app [.lst []]]
theorem ok30 : okSs M 30 N30 (defScope (top 27)) [0] c30 (defBody (top 27)) = true := by kernel_rfl
theorem sc30 : FnScope N30 ["rows"] (defScope (top 27)) := ⟨by kernel_rfl, by kernel_rfl, by kernel_rfl, by decide +kernel, by kernel_rfl, by decide +kernel, by decide +kernel⟩
/-! 31: _law_clearing_right [] -/
def N31 : List Str := ["made", "prices", "sharing", "totals"]
def c31 : List S := [.ite (.or (.not (.e (.isc 3 (.v 0)))) (.not (.e (.call 25 [.fld (.v 0) 3, .v 1])))) [.ret (.k (.bl false))] [], .ret (.and (.call 26 [.fld (.v 0) 1, .v 2]) (.call 25 [.fld (.v 0) 2, .v 3]))]
theorem ok31 : okSs M 31 N31 (defScope (top 28)) [] c31 (defBody (top 28)) = true := by kernel_rfl
theorem sc31 : FnScope N31 ["made", "prices", "sharing", "totals"] (defScope (top 28)) := ⟨by kernel_rfl, by kernel_rfl, by kernel_rfl, by decide +kernel, by kernel_rfl, by decide +kernel, by decide +kernel⟩
/-! 32: _law_clearing [] -/
def N32 : List Str := ["prices", "sharing", "totals", "first", "second", "third", "made", "again"]
def c32 : List S := [.asg false (.nm 3) (.bi .list [.v 0]), .asg false (.nm 4) (.call 28 [.v 1]), .asg false (.nm 5) (.bi .list [.v 2]), .callr (some 6) true (.mk 3 1) [.r 3, .r 4, .r 5], .ite (.or (.o2 .ne (.v 3) (.v 0)) (.or (.o2 .ne (.v 4) (.v 1)) (.o2 .ne (.v 5) (.v 2)))) [.ret (.k (.bl false))] [], .mut 3 [] .app [.tup [.k (.int 7), .k (.int 1)]], .callr none true (.fn 30) [.r 4], .mut 5 [] .ins [.k (.int 0), .tup [.k (.int 7), .k (.int 1)]], .asg true (.nm 7) (.mk 3 4 [.bi .tuple [.v 0], .call 29 [.v 1], .bi .tuple [.v 2]]), .ite (.not (.e (.call 31 [.v 7, .v 0, .v 1, .v 2]))) [.ret (.k (.bl false))] [], .ret (.call 31 [.v 6, .v 0, .v 1, .v 2])]
theorem ok32 : okSs M 32 N32 (defScope (top 29)) [] c32 (defBody (top 29)) = true := by kernel_rfl
theorem sc32 : FnScope N32 ["prices", "sharing", "totals"] (defScope (top 29)) := ⟨by kernel_rfl, by kernel_rfl, by kernel_rfl, by decide +kernel, by kernel_rfl, by decide +kernel, by decide +kernel⟩
/-! 33: _law_flow [] -/
def N33 : List Str := ["value", "amounts", "lefts", "rights", "first", "second", "third", "made"]
def c33 : List S := [.asg false (.nm 4) (.call 28 [.v 1]), .asg false (.nm 5) (.bi .list [.v 2]), .asg false (.nm 6) (.bi .list [.v 3]), .callr (some 7) true (.mk 1 2) [.e (.v 0), .r 4, .r 5, .r 6], .ite (.or (.o2 .ne (.v 4) (.v 1)) (.or (.o2 .ne (.v 5) (.v 2)) (.o2 .ne (.v 6) (.v 3)))) [.ret (.k (.bl false))] [], .callr none true (.fn 30) [.r 4], .mut 5 [] .app [.k (.int 9)], .mut 6 [] .ins [.k (.int 0), .k (.int 9)], .ite (.or (.not (.e (.isc 1 (.v 7)))) (.or (.not (.e (.call 20 [.fld (.v 7) 7, .v 0]))) (.not (.e (.call 26 [.fld (.v 7) 8, .v 1]))))) [.ret (.k (.bl false))] [], .ret (.and (.call 27 [.fld (.v 7) 5, .v 2]) (.call 27 [.fld (.v 7) 6, .v 3]))]
theorem ok33 : okSs M 33 N33 (defScope (top 30)) [] c33 (defBody (top 30)) = true := by kernel_rfl
theorem sc33 : FnScope N33 ["value", "amounts", "lefts", "rights"] (defScope (top 30)) := ⟨by kernel_rfl, by kernel_rfl, by kernel_rfl, by decide +kernel, by kernel_rfl, by decide +kernel, by decide +kernel⟩
/-! 34: _law_factor [] -/
def N34 : List Str := ["value", "weights", "offer", "first", "second", "made"]
def c34 : List S := [.asg false (.nm 3) (.bi .list [.v 1]), .asg false (.nm 4) (.call 28 [.v 2]), .callr (some 5) true (.mk 2 3) [.e (.v 0), .r 3, .r 4], .ite (.or (.o2 .ne (.v 3) (.v 1)) (.o2 .ne (.v 4) (.v 2))) [.ret (.k (.bl false))] [], .mut 3 [] .app [.tup [.k (.int 7), .k (.int 1)]], .callr none true (.fn 30) [.r 4], .ite (.or (.not (.e (.isc 2 (.v 5)))) (.not (.e (.call 20 [.fld (.v 5) 11, .v 0])))) [.ret (.k (.bl false))] [], .ret (.and (.call 25 [.fld (.v 5) 9, .v 1]) (.call 26 [.fld (.v 5) 10, .v 2]))]
theorem ok34 : okSs M 34 N34 (defScope (top 31)) [] c34 (defBody (top 31)) = true := by kernel_rfl
theorem sc34 : FnScope N34 ["value", "weights", "offer"] (defScope (top 31)) := ⟨by kernel_rfl, by kernel_rfl, by kernel_rfl, by decide +kernel, by kernel_rfl, by decide +kernel, by decide +kernel⟩
/-! 35: _law_paper [2] -/
def N35 : List Str := ["kind", "which", "value"]
def c35 : List S := [.ite (.o2 .eq (.v 1) (.k (.int 0))) [.retC (.kw 0 0) [.e (.v 0), .r 2]] [], .ite (.o2 .eq (.v 1) (.k (.int 1))) [.retC (.kw 0 1) [.e (.v 0), .r 2]] [], .ite (.o2 .eq (.v 1) (.k (.int 2))) [.retC (.kw 0 2) [.e (.v 0), .r 2]] [], .ite (.o2 .eq (.v 1) (.k (.int 3))) [.retC (.kw 0 3) [.e (.v 0), .r 2]] [], .ite (.o2 .eq (.v 1) (.k (.int 4))) [.retC (.kw 0 4) [.e (.v 0), .r 2]] [], .ite (.o2 .eq (.v 1) (.k (.int 5))) [.retC (.kw 0 5) [.e (.v 0), .r 2]] [], .ite (.o2 .eq (.v 1) (.k (.int 6))) [.retC (.kw 0 6) [.e (.v 0), .r 2]] [], .ite (.o2 .eq (.v 1) (.k (.int 7))) [.retC (.kw 0 7) [.e (.v 0), .r 2]] [], .ite (.o2 .eq (.v 1) (.k (.int 8))) [.retC (.kw 0 8) [.e (.v 0), .r 2]] [], .retC (.kw 0 9) [.e (.v 0)]]
theorem ok35 : okSs M 35 N35 (defScope (top 32)) [2] c35 (defBody (top 32)) = true := by kernel_rfl
theorem sc35 : FnScope N35 ["kind", "which", "value"] (defScope (top 32)) := ⟨by kernel_rfl, by kernel_rfl, by kernel_rfl, by decide +kernel, by kernel_rfl, by decide +kernel, by decide +kernel⟩
/-! 36: _law_fields [] -/
def N36 : List Str := ["paper", "kind", "due"]
def c36 : List S := [.ite (.or (.not (.e (.isc 0 (.v 0)))) (.or (.not (.e (.is1 (.isi ["str"]) (.fld (.v 0) 12)))) (.o2 .ne (.fld (.v 0) 12) (.v 1)))) [.ret (.k (.bl false))] [], .ite (.or (.not (.e (.call 25 [.fld (.v 0) 3, .ix (.v 2) (.k (.int 0))]))) (.not (.e (.call 26 [.fld (.v 0) 1, .ix (.v 2) (.k (.int 1))])))) [.ret (.k (.bl false))] [], .ite (.or (.not (.e (.call 26 [.fld (.v 0) 13, .ix (.v 2) (.k (.int 2))]))) (.not (.e (.call 27 [.fld (.v 0) 14, .ix (.v 2) (.k (.int 3))])))) [.ret (.k (.bl false))] [], .ite (.or (.not (.e (.call 27 [.fld (.v 0) 15, .ix (.v 2) (.k (.int 4))]))) (.not (.e (.call 25 [.fld (.v 0) 16, .ix (.v 2) (.k (.int 5))])))) [.ret (.k (.bl false))] [], .ite (.or (.not (.e (.call 25 [.fld (.v 0) 9, .ix (.v 2) (.k (.int 6))]))) (.not (.e (.call 20 [.fld (.v 0) 11, .ix (.v 2) (.k (.int 7))])))) [.ret (.k (.bl false))] [], .ret (.call 26 [.fld (.v 0) 10, .ix (.v 2) (.k (.int 8))])]
theorem ok36 : okSs M 36 N36 (defScope (top 33)) [] c36 (defBody (top 33)) = true := by kernel_rfl
theorem sc36 : FnScope N36 ["paper", "kind", "due"] (defScope (top 33)) := ⟨by kernel_rfl, by kernel_rfl, by kernel_rfl, by decide +kernel, by kernel_rfl, by decide +kernel, by decide +kernel⟩
/-! 37: _law_one_field [] -/
def N37 : List Str := ["kind", "fields", "which", "due", "value", "paper"]
def c37 : List S := [.asg false (.nm 3) (.lst [.lst [], .lst [], .lst [], .lst [], .lst [], .lst [], .lst [], .tup [.k (.int 0), .k (.int 1)], .lst []]), .asg false (.nm 4) (.tup []), .ite (.o2 .lt (.v 2) (.k (.int 9))) [.seti 3 [] (.v 2) (.ix (.v 1) (.v 2)), .asg false (.nm 4) (.ix (.v 1) (.v 2))] [], .ite (.o2 .in_ (.v 2) (.lst [.k (.int 0), .k (.int 3), .k (.int 4), .k (.int 5), .k (.int 6)])) [.asg false (.nm 4) (.bi .list [.ix (.v 1) (.v 2)])] [], .ite (.o2 .in_ (.v 2) (.lst [.k (.int 1), .k (.int 2), .k (.int 8)])) [.asg false (.nm 4) (.call 28 [.ix (.v 1) (.v 2)])] [], .callr (some 5) true (.fn 35) [.e (.v 0), .e (.v 2), .r 4], .ite (.and (.o2 .lt (.v 2) (.k (.int 9))) (.o2 .ne (.v 4) (.ix (.v 1) (.v 2)))) [.ret (.k (.bl false))] [], .ite (.o2 .in_ (.v 2) (.lst [.k (.int 0), .k (.int 3), .k (.int 4), .k (.int 5), .k (.int 6)])) [.mut 4 [] .app [.k (.int 9)]] [], .ite (.o2 .in_ (.v 2) (.lst [.k (.int 1), .k (.int 2), .k (.int 8)])) [.callr none true (.fn 30) [.r 4]] [], .frz 3, .ret (.call 36 [.v 5, .v 0, .v 3])]
theorem ok37 : okSs M 37 N37 (defScope (top 34)) [] c37 (defBody (top 34)) = true := by kernel_rfl
theorem sc37 : FnScope N37 ["kind", "fields", "which"] (defScope (top 34)) := ⟨by kernel_rfl, by kernel_rfl, by kernel_rfl, by decide +kernel, by kernel_rfl, by decide +kernel, by decide +kernel⟩
/-! 38: _law_all_fields [] -/
def N38 : List Str := ["kind", "fields", "paper"]
def c38 : List S := [.callr (some 2) true (.kw 0 10) [.e (.v 0), .e (.call 29 [.ix (.v 1) (.k (.int 8))]), .e (.ix (.v 1) (.k (.int 7))), .e (.bi .tuple [.ix (.v 1) (.k (.int 6))]), .e (.bi .tuple [.ix (.v 1) (.k (.int 5))]), .e (.bi .tuple [.ix (.v 1) (.k (.int 4))]), .e (.bi .tuple [.ix (.v 1) (.k (.int 3))]), .e (.call 29 [.ix (.v 1) (.k (.int 2))]), .e (.call 29 [.ix (.v 1) (.k (.int 1))]), .e (.bi .tuple [.ix (.v 1) (.k (.int 0))])], .ret (.call 36 [.v 2, .v 0, .v 1])]
theorem ok38 : okSs M 38 N38 (defScope (top 35)) [] c38 (defBody (top 35)) = true := by kernel_rfl
theorem sc38 : FnScope N38 ["kind", "fields"] (defScope (top 35)) := ⟨by kernel_rfl, by kernel_rfl, by kernel_rfl, by decide +kernel, by kernel_rfl, by decide +kernel, by decide +kernel⟩
/-! 39: law [] -/
def N39 : List Str := ["script", "sizes", "wide", "loose", "width", "kind", "rows", "others", "offer", "first", "second", "third", "value", "people", "goods", "fields", "which"]
def b39_0 : List S := [.ite (.not (.e (.call 37 [.v 5, .v 15, .v 16]))) [.ret (.k (.bl false))] []]
def c39 : List S := [.asg true (.nm 1) (.call 16 [.call 15 [.v 0, .k (.int 0)], .k (.int 1000), .k (.int 8)]), .asg true (.nm 2) (.o2 .eq (.o2 .mod (.bi .int_ [.ix (.v 1) (.k (.int 0))]) (.k (.int 4))) (.k (.int 1))), .asg true (.nm 3) (.o2 .eq (.o2 .mod (.bi .int_ [.ix (.v 1) (.k (.int 1))]) (.k (.int 3))) (.k (.int 1))), .asg true (.nm 4) (.o2 .mod (.bi .int_ [.ix (.v 1) (.k (.int 2))]) (.k (.int 5))), .asg true (.nm 5) (.ix (.lst [.k (.str "clearing"), .k (.str "dear"), .k (.str "lot"), .k (.str "weights"), .k (.str "trade"), .k (.str "factor")]) (.o2 .mod (.bi .int_ [.ix (.v 1) (.k (.int 3))]) (.k (.int 6)))), .asg true (.nm 6) (.call 23 [.v 0, .k (.int 1), .o2 .mod (.bi .int_ [.ix (.v 1) (.k (.int 4))]) (.k (.int 5)), .v 4, .v 3, .v 2]), .asg true (.nm 7) (.call 23 [.v 0, .k (.int 6), .o2 .mod (.bi .int_ [.ix (.v 1) (.k (.int 5))]) (.k (.int 5)), .v 4, .v 3, .v 2]), .asg true (.nm 8) (.call 23 [.v 0, .k (.int 11), .o2 .mod (.bi .int_ [.ix (.v 1) (.k (.int 6))]) (.k (.int 5)), .v 4, .v 3, .v 2]), .asg true (.nm 9) (.call 22 [.call 15 [.v 0, .k (.int 16)], .v 4, .v 2]), .asg true (.nm 10) (.call 22 [.call 15 [.v 0, .k (.int 17)], .o2 .mod (.bi .int_ [.ix (.v 1) (.k (.int 7))]) (.k (.int 5)), .v 2]), .asg true (.nm 11) (.call 22 [.call 15 [.v 0, .k (.int 18)], .o2 .mod (.bi .int_ [.o2 .fdiv (.ix (.v 1) (.k (.int 7))) (.k (.int 5))]) (.k (.int 5)), .v 2]), .asg true (.nm 12) (.ix (.call 22 [.call 15 [.v 0, .k (.int 19)], .k (.int 1), .v 2]) (.k (.int 0))), .asg true (.nm 13) (.call 24 [.call 15 [.v 0, .k (.int 20)]]), .asg true (.nm 14) (.call 24 [.call 15 [.v 0, .k (.int 21)]]), .ite (.or (.not (.e (.call 32 [.v 9, .v 6, .v 10]))) (.not (.e (.call 33 [.v 12, .v 7, .v 13, .v 14])))) [.ret (.k (.bl false))] [], .ite (.not (.e (.call 34 [.v 12, .v 11, .v 8]))) [.ret (.k (.bl false))] [], .asg true (.nm 15) (.lst [.v 9, .v 6, .v 7, .v 13, .v 14, .v 10, .v 11, .v 12, .v 8]), .for_ (.nm 16) 1 [.k (.int 10)] b39_0, .ret (.call 38 [.v 5, .v 15])]
theorem ok39 : okSs M 39 N39 (defScope (top 36)) [] c39 (defBody (top 36)) = true := by kernel_rfl
theorem sc39 : FnScope N39 ["script"] (defScope (top 36)) := ⟨by kernel_rfl, by kernel_rfl, by kernel_rfl, by decide +kernel, by kernel_rfl, by decide +kernel, by decide +kernel⟩
def g0 : Gl := ⟨cons, fun _ _ => .bad, fl, M.kw⟩
def f0 : List O → Rs (O × List O) := runF g0 N0.length [0] c0
def g1 : Gl := g0.push 0 f0
def f1 : List O → Rs (O × List O) := runF g1 N1.length [0, 1, 2, 3] c1
def g2 : Gl := g1.push 1 f1
def f2 : List O → Rs (O × List O) := runF g2 N2.length [0, 2, 3, 4] c2
def g3 : Gl := g2.push 2 f2
def f3 : List O → Rs (O × List O) := runF g3 N3.length [0, 2, 3] c3
def g4 : Gl := g3.push 3 f3
def f4 : List O → Rs (O × List O) := runF g4 N4.length [0] c4
def g5 : Gl := g4.push 4 f4
def f5 : List O → Rs (O × List O) := runF g5 N5.length [0, 2] c5
def g6 : Gl := g5.push 5 f5
def f6 : List O → Rs (O × List O) := runF g6 N6.length [0, 3] c6
def g7 : Gl := g6.push 6 f6
def f7 : List O → Rs (O × List O) := runF g7 N7.length [0, 4] c7
def g8 : Gl := g7.push 7 f7
def f8 : List O → Rs (O × List O) := runF g8 N8.length [0, 5] c8
def g9 : Gl := g8.push 8 f8
def f9 : List O → Rs (O × List O) := runF g9 N9.length [0, 6] c9
def g10 : Gl := g9.push 9 f9
def f10 : List O → Rs (O × List O) := runF g10 N10.length [0, 7] c10
def g11 : Gl := g10.push 10 f10
def f11 : List O → Rs (O × List O) := runF g11 N11.length [0, 8] c11
def g12 : Gl := g11.push 11 f11
def f12 : List O → Rs (O × List O) := runF g12 N12.length [0, 9] c12
def g13 : Gl := g12.push 12 f12
def f13 : List O → Rs (O × List O) := runF g13 N13.length [0, 10] c13
def g14 : Gl := g13.push 13 f13
def f14 : List O → Rs (O × List O) := runF g14 N14.length [0] c14
def g15 : Gl := g14.push 14 f14
def f15 : List O → Rs (O × List O) := runF g15 N15.length [] c15
def g16 : Gl := g15.push 15 f15
def f16 : List O → Rs (O × List O) := runF g16 N16.length [] c16
def g17 : Gl := g16.push 16 f16
def f17 : List O → Rs (O × List O) := runF g17 N17.length [] c17
def g18 : Gl := g17.push 17 f17
def f18 : List O → Rs (O × List O) := runF g18 N18.length [] c18
def g19 : Gl := g18.push 18 f18
def f19 : List O → Rs (O × List O) := runF g19 N19.length [] c19
def g20 : Gl := g19.push 19 f19
def f20 : List O → Rs (O × List O) := runF g20 N20.length [] c20
def g21 : Gl := g20.push 20 f20
def f21 : List O → Rs (O × List O) := runF g21 N21.length [] c21
def g22 : Gl := g21.push 21 f21
def f22 : List O → Rs (O × List O) := runF g22 N22.length [] c22
def g23 : Gl := g22.push 22 f22
def f23 : List O → Rs (O × List O) := runF g23 N23.length [] c23
def g24 : Gl := g23.push 23 f23
def f24 : List O → Rs (O × List O) := runF g24 N24.length [] c24
def g25 : Gl := g24.push 24 f24
def f25 : List O → Rs (O × List O) := runF g25 N25.length [] c25
def g26 : Gl := g25.push 25 f25
def f26 : List O → Rs (O × List O) := runF g26 N26.length [] c26
def g27 : Gl := g26.push 26 f26
def f27 : List O → Rs (O × List O) := runF g27 N27.length [] c27
def g28 : Gl := g27.push 27 f27
def f28 : List O → Rs (O × List O) := runF g28 N28.length [] c28
def g29 : Gl := g28.push 28 f28
def f29 : List O → Rs (O × List O) := runF g29 N29.length [] c29
def g30 : Gl := g29.push 29 f29
def f30 : List O → Rs (O × List O) := runF g30 N30.length [0] c30
def g31 : Gl := g30.push 30 f30
def f31 : List O → Rs (O × List O) := runF g31 N31.length [] c31
def g32 : Gl := g31.push 31 f31
def f32 : List O → Rs (O × List O) := runF g32 N32.length [] c32
def g33 : Gl := g32.push 32 f32
def f33 : List O → Rs (O × List O) := runF g33 N33.length [] c33
def g34 : Gl := g33.push 33 f33
def f34 : List O → Rs (O × List O) := runF g34 N34.length [] c34
def g35 : Gl := g34.push 34 f34
def f35 : List O → Rs (O × List O) := runF g35 N35.length [2] c35
def g36 : Gl := g35.push 35 f35
def f36 : List O → Rs (O × List O) := runF g36 N36.length [] c36
def g37 : Gl := g36.push 36 f36
def f37 : List O → Rs (O × List O) := runF g37 N37.length [] c37
def g38 : Gl := g37.push 37 f37
def f38 : List O → Rs (O × List O) := runF g38 N38.length [] c38
def g39 : Gl := g38.push 38 f38
def f39 : List O → Rs (O × List O) := runF g39 N39.length [] c39
def g40 : Gl := g39.push 39 f39
end L93

set_option Elab.async false
set_option linter.all false
set_option maxRecDepth 100000
set_option maxHeartbeats 0
namespace L93
open PySem PySem.Spec PyProof.Rows L2 Ml
def at1 (x : Str) : Str × Option Str := (x, none)
def at2 (x : Str) : Str × Option Str := (x, some "__init__")
def d0 : He.DefD := ⟨(at1 "frozen"), "frozen", "frozen", defArgs (top 1), defBody (top 1), defScope (top 1), [], []⟩
def d1 : He.DefD := ⟨(at1 "_law_cell"), "_law_cell", "_law_cell", defArgs (top 12), defBody (top 12), defScope (top 12), [], []⟩
def d2 : He.DefD := ⟨(at1 "_law_digits"), "_law_digits", "_law_digits", defArgs (top 13), defBody (top 13), defScope (top 13), [], []⟩
def d3 : He.DefD := ⟨(at1 "_law_gcd"), "_law_gcd", "_law_gcd", defArgs (top 14), defBody (top 14), defScope (top 14), [], []⟩
def d4 : He.DefD := ⟨(at1 "_law_lowest"), "_law_lowest", "_law_lowest", defArgs (top 15), defBody (top 15), defScope (top 15), [], []⟩
def d5 : He.DefD := ⟨(at1 "_law_is_integer"), "_law_is_integer", "_law_is_integer", defArgs (top 16), defBody (top 16), defScope (top 16), [], []⟩
def d6 : He.DefD := ⟨(at1 "_law_same"), "_law_same", "_law_same", defArgs (top 17), defBody (top 17), defScope (top 17), [], []⟩
def d7 : He.DefD := ⟨(at1 "_law_value"), "_law_value", "_law_value", defArgs (top 18), defBody (top 18), defScope (top 18), [], []⟩
def d8 : He.DefD := ⟨(at1 "_law_row_of"), "_law_row_of", "_law_row_of", defArgs (top 19), defBody (top 19), defScope (top 19), [], []⟩
def d9 : He.DefD := ⟨(at1 "_law_rows_of"), "_law_rows_of", "_law_rows_of", defArgs (top 20), defBody (top 20), defScope (top 20), [], []⟩
def d10 : He.DefD := ⟨(at1 "_law_numbers_of"), "_law_numbers_of", "_law_numbers_of", defArgs (top 21), defBody (top 21), defScope (top 21), [], []⟩
def d11 : He.DefD := ⟨(at1 "_law_kept"), "_law_kept", "_law_kept", defArgs (top 22), defBody (top 22), defScope (top 22), [], []⟩
def d12 : He.DefD := ⟨(at1 "_law_kept_rows"), "_law_kept_rows", "_law_kept_rows", defArgs (top 23), defBody (top 23), defScope (top 23), [], []⟩
def d13 : He.DefD := ⟨(at1 "_law_kept_numbers"), "_law_kept_numbers", "_law_kept_numbers", defArgs (top 24), defBody (top 24), defScope (top 24), [], []⟩
def d14 : He.DefD := ⟨(at1 "_law_copied"), "_law_copied", "_law_copied", defArgs (top 25), defBody (top 25), defScope (top 25), [], []⟩
def d15 : He.DefD := ⟨(at1 "_law_frozen"), "_law_frozen", "_law_frozen", defArgs (top 26), defBody (top 26), defScope (top 26), [], []⟩
def d16 : He.DefD := ⟨(at1 "_law_spoil"), "_law_spoil", "_law_spoil", defArgs (top 27), defBody (top 27), defScope (top 27), [], []⟩
def d17 : He.DefD := ⟨(at1 "_law_clearing_right"), "_law_clearing_right", "_law_clearing_right", defArgs (top 28), defBody (top 28), defScope (top 28), [], []⟩
def d18 : He.DefD := ⟨(at1 "_law_clearing"), "_law_clearing", "_law_clearing", defArgs (top 29), defBody (top 29), defScope (top 29), [], []⟩
def d19 : He.DefD := ⟨(at1 "_law_flow"), "_law_flow", "_law_flow", defArgs (top 30), defBody (top 30), defScope (top 30), [], []⟩
def d20 : He.DefD := ⟨(at1 "_law_factor"), "_law_factor", "_law_factor", defArgs (top 31), defBody (top 31), defScope (top 31), [], []⟩
def d21 : He.DefD := ⟨(at1 "_law_paper"), "_law_paper", "_law_paper", defArgs (top 32), defBody (top 32), defScope (top 32), [], []⟩
def d22 : He.DefD := ⟨(at1 "_law_fields"), "_law_fields", "_law_fields", defArgs (top 33), defBody (top 33), defScope (top 33), [], []⟩
def d23 : He.DefD := ⟨(at1 "_law_one_field"), "_law_one_field", "_law_one_field", defArgs (top 34), defBody (top 34), defScope (top 34), [], []⟩
def d24 : He.DefD := ⟨(at1 "_law_all_fields"), "_law_all_fields", "_law_all_fields", defArgs (top 35), defBody (top 35), defScope (top 35), [], []⟩
def d25 : He.DefD := ⟨(at1 "law"), "law", "law", defArgs (top 36), defBody (top 36), defScope (top 36), [], []⟩
def d26 : He.DefD := ⟨(at2 "Paper"), "__init__", "Paper.__init__", defArgs (mth 4 0), defBody (mth 4 0), defScope (mth 4 0), [], [("prices", .adr (kwAt ("Paper", some "__init__") "prices")), ("sharing", .adr (kwAt ("Paper", some "__init__") "sharing")), ("other", .adr (kwAt ("Paper", some "__init__") "other")), ("people", .adr (kwAt ("Paper", some "__init__") "people")), ("goods", .adr (kwAt ("Paper", some "__init__") "goods")), ("targets", .adr (kwAt ("Paper", some "__init__") "targets")), ("weights", .adr (kwAt ("Paper", some "__init__") "weights")), ("factor", .glo "ZERO"), ("offer", .adr (kwAt ("Paper", some "__init__") "offer"))]⟩
def d27 : He.DefD := ⟨(at2 "Flow"), "__init__", "Flow.__init__", defArgs (mth 6 0), defBody (mth 6 0), defScope (mth 6 0), [], []⟩
def d28 : He.DefD := ⟨(at2 "LotFactor"), "__init__", "LotFactor.__init__", defArgs (mth 8 0), defBody (mth 8 0), defScope (mth 8 0), [], []⟩
def d29 : He.DefD := ⟨(at2 "Clearing"), "__init__", "Clearing.__init__", defArgs (mth 10 0), defBody (mth 10 0), defScope (mth 10 0), [], []⟩
def fn : List He.DefD := [d0, d1, d2, d3, d4, d5, d6, d7, d8, d9, d10, d11, d12, d13, d14, d15, d16, d17, d18, d19, d20, d21, d22, d23, d24, d25, d26, d27, d28, d29]
def ats : List (Str × Option Str) := [(at1 "frozen"), (at2 "Clearing"), (at2 "Flow"), (at2 "LotFactor"), (at2 "Clearing"), (at2 "Paper"), (at2 "Paper"), (at2 "Paper"), (at2 "Paper"), (at2 "Paper"), (at2 "Paper"), (at2 "Paper"), (at2 "Paper"), (at2 "Paper"), (at2 "Paper"), (at1 "_law_cell"), (at1 "_law_digits"), (at1 "_law_gcd"), (at1 "_law_lowest"), (at1 "_law_is_integer"), (at1 "_law_same"), (at1 "_law_value"), (at1 "_law_row_of"), (at1 "_law_rows_of"), (at1 "_law_numbers_of"), (at1 "_law_kept"), (at1 "_law_kept_rows"), (at1 "_law_kept_numbers"), (at1 "_law_copied"), (at1 "_law_frozen"), (at1 "_law_spoil"), (at1 "_law_clearing_right"), (at1 "_law_clearing"), (at1 "_law_flow"), (at1 "_law_factor"), (at1 "_law_paper"), (at1 "_law_fields"), (at1 "_law_one_field"), (at1 "_law_all_fields"), (at1 "law")]
def cs : List Str := ["Paper", "Flow", "LotFactor", "Clearing"]
def ex (K : PySem.W.Frag) : Bool := wdB K cs ats M cons fl && noL K && (repB K (.tup []) (.ref (kwAt ("Paper", some "__init__") "prices" K)) && repB K (.tup []) (.ref (kwAt ("Paper", some "__init__") "sharing" K)) && repB K (.tup []) (.ref (kwAt ("Paper", some "__init__") "other" K)) && repB K (.tup []) (.ref (kwAt ("Paper", some "__init__") "people" K)) && repB K (.tup []) (.ref (kwAt ("Paper", some "__init__") "goods" K)) && repB K (.tup []) (.ref (kwAt ("Paper", some "__init__") "targets" K)) && repB K (.tup []) (.ref (kwAt ("Paper", some "__init__") "weights" K)) && repB K (.tup []) (.ref (kwAt ("Paper", some "__init__") "offer" K)) && repB K (.tup [.int 0, .int 1]) (.ref (He.ga K "ZERO")))
abbrev R : PySem.W.OpenRow := PySem.W.OpenLaw.row PySem.Challenge.rw_marketscleared_k93_objects_keep_copies
abbrev hk : PySem.W.Hook := hookM 6 fn ex
def ob (s : PySem.W.SharedT) : He.AlD := obsM 6 fn ex (HandSHeadRun.getT s)
theorem ob_eq (s : PySem.W.SharedT) : ob s = hk.obs s.abs := obsM_eq (HandSHeadRun.getT_eq s)
def loose : List Str := ["__name__", "frozen", "ZERO", "Paper", "Flow", "LotFactor", "Clearing", "_law_cell", "_law_digits", "_law_gcd", "_law_lowest", "_law_is_integer", "_law_same", "_law_value", "_law_row_of", "_law_rows_of", "_law_numbers_of", "_law_kept", "_law_kept_rows", "_law_kept_numbers", "_law_copied", "_law_frozen", "_law_spoil", "_law_clearing_right", "_law_clearing", "_law_flow", "_law_factor", "_law_paper", "_law_fields", "_law_one_field", "_law_all_fields"]
theorem run (w : World) : HandSHeadRun.RunEq R (PySem.W.view R.prog [36]) hk ob 20000 loose w := by
  intro os
  kernel_rfl
end L93

set_option Elab.async false
set_option linter.all false
set_option maxRecDepth 100000
set_option maxHeartbeats 0
namespace L93
open PySem PySem.Spec PyProof.Rows L2 Ml
theorem repB_ref {K : PySem.W.Frag} {T : Tb} {d : D} {a : Addr} (h : repB K d (.ref a) = true) (H : Hp) : Rep K T H d (.ref a) := by
  obtain ⟨v, r, q⟩ := repB_ok (T := T) d _ h
  cases v <;> first | (cases r; exact q H) | (obtain ⟨_, z⟩ := r; cases z) | (cases r; done)
abbrev TT (K : PySem.W.Frag) : Tb := tbOf K cs ats M.nms fun _ => []
def ms0 (K : PySem.W.Frag) : List (Str × V) := [("sharing", .ref (kwAt ("Paper", some "__init__") "sharing" K)), ("other", .ref (kwAt ("Paper", some "__init__") "other" K)), ("people", .ref (kwAt ("Paper", some "__init__") "people" K)), ("goods", .ref (kwAt ("Paper", some "__init__") "goods" K)), ("targets", .ref (kwAt ("Paper", some "__init__") "targets" K)), ("weights", .ref (kwAt ("Paper", some "__init__") "weights" K)), ("factor", .ref (He.ga K "ZERO")), ("offer", .ref (kwAt ("Paper", some "__init__") "offer" K))]
theorem kb0 {K : PySem.W.Frag} {fd : FuncData} {f : Addr} (F : FunD K d26.name d26.qual d26.params d26.body d26.scope [] (d26.kws K) f fd) : ∃ mv : List Value, KBn K fd ["self", "kind", "prices", "sharing", "other", "people", "goods", "targets", "weights", "factor", "offer"] 2 ["prices"] (fun us ws => pick [0, 1, 2, 3, 4, 5, 6, 7, 8, 9, 10] (us ++ (ws ++ mv))) (fun vs zs => pick [0, 1, 2, 3, 4, 5, 6, 7, 8, 9, 10] (vs ++ (zs ++ (ms0 K).map (·.2)))) :=
  F.kbinds0 (ps := ["self", "kind", "prices", "sharing", "other", "people", "goods", "targets", "weights", "factor", "offer"]) 2 ["prices"] (ms0 K) (fun us mv ws => pick [0, 1, 2, 3, 4, 5, 6, 7, 8, 9, 10] (us ++ (ws ++ mv))) (List.cons_ne_nil _ _) (List.Sublist.subset (show List.Sublist (ms0 K) (d26.kws K) from .cons _ (.cons₂ _ (.cons₂ _ (.cons₂ _ (.cons₂ _ (.cons₂ _ (.cons₂ _ (.cons₂ _ (.cons₂ _ .slnil)))))))))) (fun a b c => vals_pick (a.append (c.append b)) (.inr True.intro)) fun D doc pm an cdv ct us mv ws h1 h2 h3 => match us, mv, ws, h1, h2, h3 with
    | [_, _], [_, _, _, _, _, _, _, _], [_], _, _, _ => ⟨_, _, _, _, _, _, rfl, rfl, ⟨_, _, _, _, _, _, rfl, rfl, ⟨_, _, _, _, _, _, rfl, rfl, ⟨_, _, _, _, _, _, rfl, rfl, ⟨_, _, _, _, _, _, rfl, rfl, ⟨_, _, _, _, _, _, rfl, rfl, ⟨_, _, _, _, _, _, rfl, rfl, ⟨_, _, _, _, _, _, rfl, rfl, rfl⟩⟩⟩⟩⟩⟩⟩⟩
theorem rp0 {K : PySem.W.Frag} {T : Tb} (h_prices : repB K (.tup []) (.ref (kwAt ("Paper", some "__init__") "prices" K)) = true) (h_sharing : repB K (.tup []) (.ref (kwAt ("Paper", some "__init__") "sharing" K)) = true) (h_other : repB K (.tup []) (.ref (kwAt ("Paper", some "__init__") "other" K)) = true) (h_people : repB K (.tup []) (.ref (kwAt ("Paper", some "__init__") "people" K)) = true) (h_goods : repB K (.tup []) (.ref (kwAt ("Paper", some "__init__") "goods" K)) = true) (h_targets : repB K (.tup []) (.ref (kwAt ("Paper", some "__init__") "targets" K)) = true) (h_weights : repB K (.tup []) (.ref (kwAt ("Paper", some "__init__") "weights" K)) = true) (h_factor : repB K (.tup [.int 0, .int 1]) (.ref (He.ga K "ZERO")) = true) (h_offer : repB K (.tup []) (.ref (kwAt ("Paper", some "__init__") "offer" K)) = true) (H : Hp) : Reps K T H [.tup [], .tup [], .tup [], .tup [], .tup [], .tup [], .tup [.int 0, .int 1], .tup []] ((ms0 K).map (·.2)) := ⟨_, _, rfl, repB_ref h_sharing H, ⟨_, _, rfl, repB_ref h_other H, ⟨_, _, rfl, repB_ref h_people H, ⟨_, _, rfl, repB_ref h_goods H, ⟨_, _, rfl, repB_ref h_targets H, ⟨_, _, rfl, repB_ref h_weights H, ⟨_, _, rfl, repB_ref h_factor H, ⟨_, _, rfl, repB_ref h_offer H, rfl⟩⟩⟩⟩⟩⟩⟩⟩
def ms1 (K : PySem.W.Frag) : List (Str × V) := [("prices", .ref (kwAt ("Paper", some "__init__") "prices" K)), ("other", .ref (kwAt ("Paper", some "__init__") "other" K)), ("people", .ref (kwAt ("Paper", some "__init__") "people" K)), ("goods", .ref (kwAt ("Paper", some "__init__") "goods" K)), ("targets", .ref (kwAt ("Paper", some "__init__") "targets" K)), ("weights", .ref (kwAt ("Paper", some "__init__") "weights" K)), ("factor", .ref (He.ga K "ZERO")), ("offer", .ref (kwAt ("Paper", some "__init__") "offer" K))]
theorem kb1 {K : PySem.W.Frag} {fd : FuncData} {f : Addr} (F : FunD K d26.name d26.qual d26.params d26.body d26.scope [] (d26.kws K) f fd) : ∃ mv : List Value, KBn K fd ["self", "kind", "prices", "sharing", "other", "people", "goods", "targets", "weights", "factor", "offer"] 2 ["sharing"] (fun us ws => pick [0, 1, 3, 2, 4, 5, 6, 7, 8, 9, 10] (us ++ (ws ++ mv))) (fun vs zs => pick [0, 1, 3, 2, 4, 5, 6, 7, 8, 9, 10] (vs ++ (zs ++ (ms1 K).map (·.2)))) :=
  F.kbinds0 (ps := ["self", "kind", "prices", "sharing", "other", "people", "goods", "targets", "weights", "factor", "offer"]) 2 ["sharing"] (ms1 K) (fun us mv ws => pick [0, 1, 3, 2, 4, 5, 6, 7, 8, 9, 10] (us ++ (ws ++ mv))) (List.cons_ne_nil _ _) (List.Sublist.subset (show List.Sublist (ms1 K) (d26.kws K) from .cons₂ _ (.cons _ (.cons₂ _ (.cons₂ _ (.cons₂ _ (.cons₂ _ (.cons₂ _ (.cons₂ _ (.cons₂ _ .slnil)))))))))) (fun a b c => vals_pick (a.append (c.append b)) (.inr True.intro)) fun D doc pm an cdv ct us mv ws h1 h2 h3 => match us, mv, ws, h1, h2, h3 with
    | [_, _], [_, _, _, _, _, _, _, _], [_], _, _, _ => ⟨_, _, _, _, _, _, rfl, rfl, ⟨_, _, _, _, _, _, rfl, rfl, ⟨_, _, _, _, _, _, rfl, rfl, ⟨_, _, _, _, _, _, rfl, rfl, ⟨_, _, _, _, _, _, rfl, rfl, ⟨_, _, _, _, _, _, rfl, rfl, ⟨_, _, _, _, _, _, rfl, rfl, ⟨_, _, _, _, _, _, rfl, rfl, rfl⟩⟩⟩⟩⟩⟩⟩⟩
theorem rp1 {K : PySem.W.Frag} {T : Tb} (h_prices : repB K (.tup []) (.ref (kwAt ("Paper", some "__init__") "prices" K)) = true) (h_sharing : repB K (.tup []) (.ref (kwAt ("Paper", some "__init__") "sharing" K)) = true) (h_other : repB K (.tup []) (.ref (kwAt ("Paper", some "__init__") "other" K)) = true) (h_people : repB K (.tup []) (.ref (kwAt ("Paper", some "__init__") "people" K)) = true) (h_goods : repB K (.tup []) (.ref (kwAt ("Paper", some "__init__") "goods" K)) = true) (h_targets : repB K (.tup []) (.ref (kwAt ("Paper", some "__init__") "targets" K)) = true) (h_weights : repB K (.tup []) (.ref (kwAt ("Paper", some "__init__") "weights" K)) = true) (h_factor : repB K (.tup [.int 0, .int 1]) (.ref (He.ga K "ZERO")) = true) (h_offer : repB K (.tup []) (.ref (kwAt ("Paper", some "__init__") "offer" K)) = true) (H : Hp) : Reps K T H [.tup [], .tup [], .tup [], .tup [], .tup [], .tup [], .tup [.int 0, .int 1], .tup []] ((ms1 K).map (·.2)) := ⟨_, _, rfl, repB_ref h_prices H, ⟨_, _, rfl, repB_ref h_other H, ⟨_, _, rfl, repB_ref h_people H, ⟨_, _, rfl, repB_ref h_goods H, ⟨_, _, rfl, repB_ref h_targets H, ⟨_, _, rfl, repB_ref h_weights H, ⟨_, _, rfl, repB_ref h_factor H, ⟨_, _, rfl, repB_ref h_offer H, rfl⟩⟩⟩⟩⟩⟩⟩⟩
def ms2 (K : PySem.W.Frag) : List (Str × V) := [("prices", .ref (kwAt ("Paper", some "__init__") "prices" K)), ("sharing", .ref (kwAt ("Paper", some "__init__") "sharing" K)), ("people", .ref (kwAt ("Paper", some "__init__") "people" K)), ("goods", .ref (kwAt ("Paper", some "__init__") "goods" K)), ("targets", .ref (kwAt ("Paper", some "__init__") "targets" K)), ("weights", .ref (kwAt ("Paper", some "__init__") "weights" K)), ("factor", .ref (He.ga K "ZERO")), ("offer", .ref (kwAt ("Paper", some "__init__") "offer" K))]
theorem kb2 {K : PySem.W.Frag} {fd : FuncData} {f : Addr} (F : FunD K d26.name d26.qual d26.params d26.body d26.scope [] (d26.kws K) f fd) : ∃ mv : List Value, KBn K fd ["self", "kind", "prices", "sharing", "other", "people", "goods", "targets", "weights", "factor", "offer"] 2 ["other"] (fun us ws => pick [0, 1, 3, 4, 2, 5, 6, 7, 8, 9, 10] (us ++ (ws ++ mv))) (fun vs zs => pick [0, 1, 3, 4, 2, 5, 6, 7, 8, 9, 10] (vs ++ (zs ++ (ms2 K).map (·.2)))) :=
  F.kbinds0 (ps := ["self", "kind", "prices", "sharing", "other", "people", "goods", "targets", "weights", "factor", "offer"]) 2 ["other"] (ms2 K) (fun us mv ws => pick [0, 1, 3, 4, 2, 5, 6, 7, 8, 9, 10] (us ++ (ws ++ mv))) (List.cons_ne_nil _ _) (List.Sublist.subset (show List.Sublist (ms2 K) (d26.kws K) from .cons₂ _ (.cons₂ _ (.cons _ (.cons₂ _ (.cons₂ _ (.cons₂ _ (.cons₂ _ (.cons₂ _ (.cons₂ _ .slnil)))))))))) (fun a b c => vals_pick (a.append (c.append b)) (.inr True.intro)) fun D doc pm an cdv ct us mv ws h1 h2 h3 => match us, mv, ws, h1, h2, h3 with
    | [_, _], [_, _, _, _, _, _, _, _], [_], _, _, _ => ⟨_, _, _, _, _, _, rfl, rfl, ⟨_, _, _, _, _, _, rfl, rfl, ⟨_, _, _, _, _, _, rfl, rfl, ⟨_, _, _, _, _, _, rfl, rfl, ⟨_, _, _, _, _, _, rfl, rfl, ⟨_, _, _, _, _, _, rfl, rfl, ⟨_, _, _, _, _, _, rfl, rfl, ⟨_, _, _, _, _, _, rfl, rfl, rfl⟩⟩⟩⟩⟩⟩⟩⟩
theorem rp2 {K : PySem.W.Frag} {T : Tb} (h_prices : repB K (.tup []) (.ref (kwAt ("Paper", some "__init__") "prices" K)) = true) (h_sharing : repB K (.tup []) (.ref (kwAt ("Paper", some "__init__") "sharing" K)) = true) (h_other : repB K (.tup []) (.ref (kwAt ("Paper", some "__init__") "other" K)) = true) (h_people : repB K (.tup []) (.ref (kwAt ("Paper", some "__init__") "people" K)) = true) (h_goods : repB K (.tup []) (.ref (kwAt ("Paper", some "__init__") "goods" K)) = true) (h_targets : repB K (.tup []) (.ref (kwAt ("Paper", some "__init__") "targets" K)) = true) (h_weights : repB K (.tup []) (.ref (kwAt ("Paper", some "__init__") "weights" K)) = true) (h_factor : repB K (.tup [.int 0, .int 1]) (.ref (He.ga K "ZERO")) = true) (h_offer : repB K (.tup []) (.ref (kwAt ("Paper", some "__init__") "offer" K)) = true) (H : Hp) : Reps K T H [.tup [], .tup [], .tup [], .tup [], .tup [], .tup [], .tup [.int 0, .int 1], .tup []] ((ms2 K).map (·.2)) := ⟨_, _, rfl, repB_ref h_prices H, ⟨_, _, rfl, repB_ref h_sharing H, ⟨_, _, rfl, repB_ref h_people H, ⟨_, _, rfl, repB_ref h_goods H, ⟨_, _, rfl, repB_ref h_targets H, ⟨_, _, rfl, repB_ref h_weights H, ⟨_, _, rfl, repB_ref h_factor H, ⟨_, _, rfl, repB_ref h_offer H, rfl⟩⟩⟩⟩⟩⟩⟩⟩
def ms3 (K : PySem.W.Frag) : List (Str × V) := [("prices", .ref (kwAt ("Paper", some "__init__") "prices" K)), ("sharing", .ref (kwAt ("Paper", some "__init__") "sharing" K)), ("other", .ref (kwAt ("Paper", some "__init__") "other" K)), ("goods", .ref (kwAt ("Paper", some "__init__") "goods" K)), ("targets", .ref (kwAt ("Paper", some "__init__") "targets" K)), ("weights", .ref (kwAt ("Paper", some "__init__") "weights" K)), ("factor", .ref (He.ga K "ZERO")), ("offer", .ref (kwAt ("Paper", some "__init__") "offer" K))]
theorem kb3 {K : PySem.W.Frag} {fd : FuncData} {f : Addr} (F : FunD K d26.name d26.qual d26.params d26.body d26.scope [] (d26.kws K) f fd) : ∃ mv : List Value, KBn K fd ["self", "kind", "prices", "sharing", "other", "people", "goods", "targets", "weights", "factor", "offer"] 2 ["people"] (fun us ws => pick [0, 1, 3, 4, 5, 2, 6, 7, 8, 9, 10] (us ++ (ws ++ mv))) (fun vs zs => pick [0, 1, 3, 4, 5, 2, 6, 7, 8, 9, 10] (vs ++ (zs ++ (ms3 K).map (·.2)))) :=
  F.kbinds0 (ps := ["self", "kind", "prices", "sharing", "other", "people", "goods", "targets", "weights", "factor", "offer"]) 2 ["people"] (ms3 K) (fun us mv ws => pick [0, 1, 3, 4, 5, 2, 6, 7, 8, 9, 10] (us ++ (ws ++ mv))) (List.cons_ne_nil _ _) (List.Sublist.subset (show List.Sublist (ms3 K) (d26.kws K) from .cons₂ _ (.cons₂ _ (.cons₂ _ (.cons _ (.cons₂ _ (.cons₂ _ (.cons₂ _ (.cons₂ _ (.cons₂ _ .slnil)))))))))) (fun a b c => vals_pick (a.append (c.append b)) (.inr True.intro)) fun D doc pm an cdv ct us mv ws h1 h2 h3 => match us, mv, ws, h1, h2, h3 with
    | [_, _], [_, _, _, _, _, _, _, _], [_], _, _, _ => ⟨_, _, _, _, _, _, rfl, rfl, ⟨_, _, _, _, _, _, rfl, rfl, ⟨_, _, _, _, _, _, rfl, rfl, ⟨_, _, _, _, _, _, rfl, rfl, ⟨_, _, _, _, _, _, rfl, rfl, ⟨_, _, _, _, _, _, rfl, rfl, ⟨_, _, _, _, _, _, rfl, rfl, ⟨_, _, _, _, _, _, rfl, rfl, rfl⟩⟩⟩⟩⟩⟩⟩⟩
theorem rp3 {K : PySem.W.Frag} {T : Tb} (h_prices : repB K (.tup []) (.ref (kwAt ("Paper", some "__init__") "prices" K)) = true) (h_sharing : repB K (.tup []) (.ref (kwAt ("Paper", some "__init__") "sharing" K)) = true) (h_other : repB K (.tup []) (.ref (kwAt ("Paper", some "__init__") "other" K)) = true) (h_people : repB K (.tup []) (.ref (kwAt ("Paper", some "__init__") "people" K)) = true) (h_goods : repB K (.tup []) (.ref (kwAt ("Paper", some "__init__") "goods" K)) = true) (h_targets : repB K (.tup []) (.ref (kwAt ("Paper", some "__init__") "targets" K)) = true) (h_weights : repB K (.tup []) (.ref (kwAt ("Paper", some "__init__") "weights" K)) = true) (h_factor : repB K (.tup [.int 0, .int 1]) (.ref (He.ga K "ZERO")) = true) (h_offer : repB K (.tup []) (.ref (kwAt ("Paper", some "__init__") "offer" K)) = true) (H : Hp) : Reps K T H [.tup [], .tup [], .tup [], .tup [], .tup [], .tup [], .tup [.int 0, .int 1], .tup []] ((ms3 K).map (·.2)) := ⟨_, _, rfl, repB_ref h_prices H, ⟨_, _, rfl, repB_ref h_sharing H, ⟨_, _, rfl, repB_ref h_other H, ⟨_, _, rfl, repB_ref h_goods H, ⟨_, _, rfl, repB_ref h_targets H, ⟨_, _, rfl, repB_ref h_weights H, ⟨_, _, rfl, repB_ref h_factor H, ⟨_, _, rfl, repB_ref h_offer H, rfl⟩⟩⟩⟩⟩⟩⟩⟩
def ms4 (K : PySem.W.Frag) : List (Str × V) := [("prices", .ref (kwAt ("Paper", some "__init__") "prices" K)), ("sharing", .ref (kwAt ("Paper", some "__init__") "sharing" K)), ("other", .ref (kwAt ("Paper", some "__init__") "other" K)), ("people", .ref (kwAt ("Paper", some "__init__") "people" K)), ("targets", .ref (kwAt ("Paper", some "__init__") "targets" K)), ("weights", .ref (kwAt ("Paper", some "__init__") "weights" K)), ("factor", .ref (He.ga K "ZERO")), ("offer", .ref (kwAt ("Paper", some "__init__") "offer" K))]
theorem kb4 {K : PySem.W.Frag} {fd : FuncData} {f : Addr} (F : FunD K d26.name d26.qual d26.params d26.body d26.scope [] (d26.kws K) f fd) : ∃ mv : List Value, KBn K fd ["self", "kind", "prices", "sharing", "other", "people", "goods", "targets", "weights", "factor", "offer"] 2 ["goods"] (fun us ws => pick [0, 1, 3, 4, 5, 6, 2, 7, 8, 9, 10] (us ++ (ws ++ mv))) (fun vs zs => pick [0, 1, 3, 4, 5, 6, 2, 7, 8, 9, 10] (vs ++ (zs ++ (ms4 K).map (·.2)))) :=
  F.kbinds0 (ps := ["self", "kind", "prices", "sharing", "other", "people", "goods", "targets", "weights", "factor", "offer"]) 2 ["goods"] (ms4 K) (fun us mv ws => pick [0, 1, 3, 4, 5, 6, 2, 7, 8, 9, 10] (us ++ (ws ++ mv))) (List.cons_ne_nil _ _) (List.Sublist.subset (show List.Sublist (ms4 K) (d26.kws K) from .cons₂ _ (.cons₂ _ (.cons₂ _ (.cons₂ _ (.cons _ (.cons₂ _ (.cons₂ _ (.cons₂ _ (.cons₂ _ .slnil)))))))))) (fun a b c => vals_pick (a.append (c.append b)) (.inr True.intro)) fun D doc pm an cdv ct us mv ws h1 h2 h3 => match us, mv, ws, h1, h2, h3 with
    | [_, _], [_, _, _, _, _, _, _, _], [_], _, _, _ => ⟨_, _, _, _, _, _, rfl, rfl, ⟨_, _, _, _, _, _, rfl, rfl, ⟨_, _, _, _, _, _, rfl, rfl, ⟨_, _, _, _, _, _, rfl, rfl, ⟨_, _, _, _, _, _, rfl, rfl, ⟨_, _, _, _, _, _, rfl, rfl, ⟨_, _, _, _, _, _, rfl, rfl, ⟨_, _, _, _, _, _, rfl, rfl, rfl⟩⟩⟩⟩⟩⟩⟩⟩
theorem rp4 {K : PySem.W.Frag} {T : Tb} (h_prices : repB K (.tup []) (.ref (kwAt ("Paper", some "__init__") "prices" K)) = true) (h_sharing : repB K (.tup []) (.ref (kwAt ("Paper", some "__init__") "sharing" K)) = true) (h_other : repB K (.tup []) (.ref (kwAt ("Paper", some "__init__") "other" K)) = true) (h_people : repB K (.tup []) (.ref (kwAt ("Paper", some "__init__") "people" K)) = true) (h_goods : repB K (.tup []) (.ref (kwAt ("Paper", some "__init__") "goods" K)) = true) (h_targets : repB K (.tup []) (.ref (kwAt ("Paper", some "__init__") "targets" K)) = true) (h_weights : repB K (.tup []) (.ref (kwAt ("Paper", some "__init__") "weights" K)) = true) (h_factor : repB K (.tup [.int 0, .int 1]) (.ref (He.ga K "ZERO")) = true) (h_offer : repB K (.tup []) (.ref (kwAt ("Paper", some "__init__") "offer" K)) = true) (H : Hp) : Reps K T H [.tup [], .tup [], .tup [], .tup [], .tup [], .tup [], .tup [.int 0, .int 1], .tup []] ((ms4 K).map (·.2)) := ⟨_, _, rfl, repB_ref h_prices H, ⟨_, _, rfl, repB_ref h_sharing H, ⟨_, _, rfl, repB_ref h_other H, ⟨_, _, rfl, repB_ref h_people H, ⟨_, _, rfl, repB_ref h_targets H, ⟨_, _, rfl, repB_ref h_weights H, ⟨_, _, rfl, repB_ref h_factor H, ⟨_, _, rfl, repB_ref h_offer H, rfl⟩⟩⟩⟩⟩⟩⟩⟩
def ms5 (K : PySem.W.Frag) : List (Str × V) := [("prices", .ref (kwAt ("Paper", some "__init__") "prices" K)), ("sharing", .ref (kwAt ("Paper", some "__init__") "sharing" K)), ("other", .ref (kwAt ("Paper", some "__init__") "other" K)), ("people", .ref (kwAt ("Paper", some "__init__") "people" K)), ("goods", .ref (kwAt ("Paper", some "__init__") "goods" K)), ("weights", .ref (kwAt ("Paper", some "__init__") "weights" K)), ("factor", .ref (He.ga K "ZERO")), ("offer", .ref (kwAt ("Paper", some "__init__") "offer" K))]
theorem kb5 {K : PySem.W.Frag} {fd : FuncData} {f : Addr} (F : FunD K d26.name d26.qual d26.params d26.body d26.scope [] (d26.kws K) f fd) : ∃ mv : List Value, KBn K fd ["self", "kind", "prices", "sharing", "other", "people", "goods", "targets", "weights", "factor", "offer"] 2 ["targets"] (fun us ws => pick [0, 1, 3, 4, 5, 6, 7, 2, 8, 9, 10] (us ++ (ws ++ mv))) (fun vs zs => pick [0, 1, 3, 4, 5, 6, 7, 2, 8, 9, 10] (vs ++ (zs ++ (ms5 K).map (·.2)))) :=
  F.kbinds0 (ps := ["self", "kind", "prices", "sharing", "other", "people", "goods", "targets", "weights", "factor", "offer"]) 2 ["targets"] (ms5 K) (fun us mv ws => pick [0, 1, 3, 4, 5, 6, 7, 2, 8, 9, 10] (us ++ (ws ++ mv))) (List.cons_ne_nil _ _) (List.Sublist.subset (show List.Sublist (ms5 K) (d26.kws K) from .cons₂ _ (.cons₂ _ (.cons₂ _ (.cons₂ _ (.cons₂ _ (.cons _ (.cons₂ _ (.cons₂ _ (.cons₂ _ .slnil)))))))))) (fun a b c => vals_pick (a.append (c.append b)) (.inr True.intro)) fun D doc pm an cdv ct us mv ws h1 h2 h3 => match us, mv, ws, h1, h2, h3 with
    | [_, _], [_, _, _, _, _, _, _, _], [_], _, _, _ => ⟨_, _, _, _, _, _, rfl, rfl, ⟨_, _, _, _, _, _, rfl, rfl, ⟨_, _, _, _, _, _, rfl, rfl, ⟨_, _, _, _, _, _, rfl, rfl, ⟨_, _, _, _, _, _, rfl, rfl, ⟨_, _, _, _, _, _, rfl, rfl, ⟨_, _, _, _, _, _, rfl, rfl, ⟨_, _, _, _, _, _, rfl, rfl, rfl⟩⟩⟩⟩⟩⟩⟩⟩
theorem rp5 {K : PySem.W.Frag} {T : Tb} (h_prices : repB K (.tup []) (.ref (kwAt ("Paper", some "__init__") "prices" K)) = true) (h_sharing : repB K (.tup []) (.ref (kwAt ("Paper", some "__init__") "sharing" K)) = true) (h_other : repB K (.tup []) (.ref (kwAt ("Paper", some "__init__") "other" K)) = true) (h_people : repB K (.tup []) (.ref (kwAt ("Paper", some "__init__") "people" K)) = true) (h_goods : repB K (.tup []) (.ref (kwAt ("Paper", some "__init__") "goods" K)) = true) (h_targets : repB K (.tup []) (.ref (kwAt ("Paper", some "__init__") "targets" K)) = true) (h_weights : repB K (.tup []) (.ref (kwAt ("Paper", some "__init__") "weights" K)) = true) (h_factor : repB K (.tup [.int 0, .int 1]) (.ref (He.ga K "ZERO")) = true) (h_offer : repB K (.tup []) (.ref (kwAt ("Paper", some "__init__") "offer" K)) = true) (H : Hp) : Reps K T H [.tup [], .tup [], .tup [], .tup [], .tup [], .tup [], .tup [.int 0, .int 1], .tup []] ((ms5 K).map (·.2)) := ⟨_, _, rfl, repB_ref h_prices H, ⟨_, _, rfl, repB_ref h_sharing H, ⟨_, _, rfl, repB_ref h_other H, ⟨_, _, rfl, repB_ref h_people H, ⟨_, _, rfl, repB_ref h_goods H, ⟨_, _, rfl, repB_ref h_weights H, ⟨_, _, rfl, repB_ref h_factor H, ⟨_, _, rfl, repB_ref h_offer H, rfl⟩⟩⟩⟩⟩⟩⟩⟩
def ms6 (K : PySem.W.Frag) : List (Str × V) := [("prices", .ref (kwAt ("Paper", some "__init__") "prices" K)), ("sharing", .ref (kwAt ("Paper", some "__init__") "sharing" K)), ("other", .ref (kwAt ("Paper", some "__init__") "other" K)), ("people", .ref (kwAt ("Paper", some "__init__") "people" K)), ("goods", .ref (kwAt ("Paper", some "__init__") "goods" K)), ("targets", .ref (kwAt ("Paper", some "__init__") "targets" K)), ("factor", .ref (He.ga K "ZERO")), ("offer", .ref (kwAt ("Paper", some "__init__") "offer" K))]
theorem kb6 {K : PySem.W.Frag} {fd : FuncData} {f : Addr} (F : FunD K d26.name d26.qual d26.params d26.body d26.scope [] (d26.kws K) f fd) : ∃ mv : List Value, KBn K fd ["self", "kind", "prices", "sharing", "other", "people", "goods", "targets", "weights", "factor", "offer"] 2 ["weights"] (fun us ws => pick [0, 1, 3, 4, 5, 6, 7, 8, 2, 9, 10] (us ++ (ws ++ mv))) (fun vs zs => pick [0, 1, 3, 4, 5, 6, 7, 8, 2, 9, 10] (vs ++ (zs ++ (ms6 K).map (·.2)))) :=
  F.kbinds0 (ps := ["self", "kind", "prices", "sharing", "other", "people", "goods", "targets", "weights", "factor", "offer"]) 2 ["weights"] (ms6 K) (fun us mv ws => pick [0, 1, 3, 4, 5, 6, 7, 8, 2, 9, 10] (us ++ (ws ++ mv))) (List.cons_ne_nil _ _) (List.Sublist.subset (show List.Sublist (ms6 K) (d26.kws K) from .cons₂ _ (.cons₂ _ (.cons₂ _ (.cons₂ _ (.cons₂ _ (.cons₂ _ (.cons _ (.cons₂ _ (.cons₂ _ .slnil)))))))))) (fun a b c => vals_pick (a.append (c.append b)) (.inr True.intro)) fun D doc pm an cdv ct us mv ws h1 h2 h3 => match us, mv, ws, h1, h2, h3 with
    | [_, _], [_, _, _, _, _, _, _, _], [_], _, _, _ => ⟨_, _, _, _, _, _, rfl, rfl, ⟨_, _, _, _, _, _, rfl, rfl, ⟨_, _, _, _, _, _, rfl, rfl, ⟨_, _, _, _, _, _, rfl, rfl, ⟨_, _, _, _, _, _, rfl, rfl, ⟨_, _, _, _, _, _, rfl, rfl, ⟨_, _, _, _, _, _, rfl, rfl, ⟨_, _, _, _, _, _, rfl, rfl, rfl⟩⟩⟩⟩⟩⟩⟩⟩
theorem rp6 {K : PySem.W.Frag} {T : Tb} (h_prices : repB K (.tup []) (.ref (kwAt ("Paper", some "__init__") "prices" K)) = true) (h_sharing : repB K (.tup []) (.ref (kwAt ("Paper", some "__init__") "sharing" K)) = true) (h_other : repB K (.tup []) (.ref (kwAt ("Paper", some "__init__") "other" K)) = true) (h_people : repB K (.tup []) (.ref (kwAt ("Paper", some "__init__") "people" K)) = true) (h_goods : repB K (.tup []) (.ref (kwAt ("Paper", some "__init__") "goods" K)) = true) (h_targets : repB K (.tup []) (.ref (kwAt ("Paper", some "__init__") "targets" K)) = true) (h_weights : repB K (.tup []) (.ref (kwAt ("Paper", some "__init__") "weights" K)) = true) (h_factor : repB K (.tup [.int 0, .int 1]) (.ref (He.ga K "ZERO")) = true) (h_offer : repB K (.tup []) (.ref (kwAt ("Paper", some "__init__") "offer" K)) = true) (H : Hp) : Reps K T H [.tup [], .tup [], .tup [], .tup [], .tup [], .tup [], .tup [.int 0, .int 1], .tup []] ((ms6 K).map (·.2)) := ⟨_, _, rfl, repB_ref h_prices H, ⟨_, _, rfl, repB_ref h_sharing H, ⟨_, _, rfl, repB_ref h_other H, ⟨_, _, rfl, repB_ref h_people H, ⟨_, _, rfl, repB_ref h_goods H, ⟨_, _, rfl, repB_ref h_targets H, ⟨_, _, rfl, repB_ref h_factor H, ⟨_, _, rfl, repB_ref h_offer H, rfl⟩⟩⟩⟩⟩⟩⟩⟩
def ms7 (K : PySem.W.Frag) : List (Str × V) := [("prices", .ref (kwAt ("Paper", some "__init__") "prices" K)), ("sharing", .ref (kwAt ("Paper", some "__init__") "sharing" K)), ("other", .ref (kwAt ("Paper", some "__init__") "other" K)), ("people", .ref (kwAt ("Paper", some "__init__") "people" K)), ("goods", .ref (kwAt ("Paper", some "__init__") "goods" K)), ("targets", .ref (kwAt ("Paper", some "__init__") "targets" K)), ("weights", .ref (kwAt ("Paper", some "__init__") "weights" K)), ("offer", .ref (kwAt ("Paper", some "__init__") "offer" K))]
theorem kb7 {K : PySem.W.Frag} {fd : FuncData} {f : Addr} (F : FunD K d26.name d26.qual d26.params d26.body d26.scope [] (d26.kws K) f fd) : ∃ mv : List Value, KBn K fd ["self", "kind", "prices", "sharing", "other", "people", "goods", "targets", "weights", "factor", "offer"] 2 ["factor"] (fun us ws => pick [0, 1, 3, 4, 5, 6, 7, 8, 9, 2, 10] (us ++ (ws ++ mv))) (fun vs zs => pick [0, 1, 3, 4, 5, 6, 7, 8, 9, 2, 10] (vs ++ (zs ++ (ms7 K).map (·.2)))) :=
  F.kbinds0 (ps := ["self", "kind", "prices", "sharing", "other", "people", "goods", "targets", "weights", "factor", "offer"]) 2 ["factor"] (ms7 K) (fun us mv ws => pick [0, 1, 3, 4, 5, 6, 7, 8, 9, 2, 10] (us ++ (ws ++ mv))) (List.cons_ne_nil _ _) (List.Sublist.subset (show List.Sublist (ms7 K) (d26.kws K) from .cons₂ _ (.cons₂ _ (.cons₂ _ (.cons₂ _ (.cons₂ _ (.cons₂ _ (.cons₂ _ (.cons _ (.cons₂ _ .slnil)))))))))) (fun a b c => vals_pick (a.append (c.append b)) (.inr True.intro)) fun D doc pm an cdv ct us mv ws h1 h2 h3 => match us, mv, ws, h1, h2, h3 with
    | [_, _], [_, _, _, _, _, _, _, _], [_], _, _, _ => ⟨_, _, _, _, _, _, rfl, rfl, ⟨_, _, _, _, _, _, rfl, rfl, ⟨_, _, _, _, _, _, rfl, rfl, ⟨_, _, _, _, _, _, rfl, rfl, ⟨_, _, _, _, _, _, rfl, rfl, ⟨_, _, _, _, _, _, rfl, rfl, ⟨_, _, _, _, _, _, rfl, rfl, ⟨_, _, _, _, _, _, rfl, rfl, rfl⟩⟩⟩⟩⟩⟩⟩⟩
theorem rp7 {K : PySem.W.Frag} {T : Tb} (h_prices : repB K (.tup []) (.ref (kwAt ("Paper", some "__init__") "prices" K)) = true) (h_sharing : repB K (.tup []) (.ref (kwAt ("Paper", some "__init__") "sharing" K)) = true) (h_other : repB K (.tup []) (.ref (kwAt ("Paper", some "__init__") "other" K)) = true) (h_people : repB K (.tup []) (.ref (kwAt ("Paper", some "__init__") "people" K)) = true) (h_goods : repB K (.tup []) (.ref (kwAt ("Paper", some "__init__") "goods" K)) = true) (h_targets : repB K (.tup []) (.ref (kwAt ("Paper", some "__init__") "targets" K)) = true) (h_weights : repB K (.tup []) (.ref (kwAt ("Paper", some "__init__") "weights" K)) = true) (h_factor : repB K (.tup [.int 0, .int 1]) (.ref (He.ga K "ZERO")) = true) (h_offer : repB K (.tup []) (.ref (kwAt ("Paper", some "__init__") "offer" K)) = true) (H : Hp) : Reps K T H [.tup [], .tup [], .tup [], .tup [], .tup [], .tup [], .tup [], .tup []] ((ms7 K).map (·.2)) := ⟨_, _, rfl, repB_ref h_prices H, ⟨_, _, rfl, repB_ref h_sharing H, ⟨_, _, rfl, repB_ref h_other H, ⟨_, _, rfl, repB_ref h_people H, ⟨_, _, rfl, repB_ref h_goods H, ⟨_, _, rfl, repB_ref h_targets H, ⟨_, _, rfl, repB_ref h_weights H, ⟨_, _, rfl, repB_ref h_offer H, rfl⟩⟩⟩⟩⟩⟩⟩⟩
def ms8 (K : PySem.W.Frag) : List (Str × V) := [("prices", .ref (kwAt ("Paper", some "__init__") "prices" K)), ("sharing", .ref (kwAt ("Paper", some "__init__") "sharing" K)), ("other", .ref (kwAt ("Paper", some "__init__") "other" K)), ("people", .ref (kwAt ("Paper", some "__init__") "people" K)), ("goods", .ref (kwAt ("Paper", some "__init__") "goods" K)), ("targets", .ref (kwAt ("Paper", some "__init__") "targets" K)), ("weights", .ref (kwAt ("Paper", some "__init__") "weights" K)), ("factor", .ref (He.ga K "ZERO"))]
theorem kb8 {K : PySem.W.Frag} {fd : FuncData} {f : Addr} (F : FunD K d26.name d26.qual d26.params d26.body d26.scope [] (d26.kws K) f fd) : ∃ mv : List Value, KBn K fd ["self", "kind", "prices", "sharing", "other", "people", "goods", "targets", "weights", "factor", "offer"] 2 ["offer"] (fun us ws => pick [0, 1, 3, 4, 5, 6, 7, 8, 9, 10, 2] (us ++ (ws ++ mv))) (fun vs zs => pick [0, 1, 3, 4, 5, 6, 7, 8, 9, 10, 2] (vs ++ (zs ++ (ms8 K).map (·.2)))) :=
  F.kbinds0 (ps := ["self", "kind", "prices", "sharing", "other", "people", "goods", "targets", "weights", "factor", "offer"]) 2 ["offer"] (ms8 K) (fun us mv ws => pick [0, 1, 3, 4, 5, 6, 7, 8, 9, 10, 2] (us ++ (ws ++ mv))) (List.cons_ne_nil _ _) (List.Sublist.subset (show List.Sublist (ms8 K) (d26.kws K) from .cons₂ _ (.cons₂ _ (.cons₂ _ (.cons₂ _ (.cons₂ _ (.cons₂ _ (.cons₂ _ (.cons₂ _ (.cons _ .slnil)))))))))) (fun a b c => vals_pick (a.append (c.append b)) (.inr True.intro)) fun D doc pm an cdv ct us mv ws h1 h2 h3 => match us, mv, ws, h1, h2, h3 with
    | [_, _], [_, _, _, _, _, _, _, _], [_], _, _, _ => ⟨_, _, _, _, _, _, rfl, rfl, ⟨_, _, _, _, _, _, rfl, rfl, ⟨_, _, _, _, _, _, rfl, rfl, ⟨_, _, _, _, _, _, rfl, rfl, ⟨_, _, _, _, _, _, rfl, rfl, ⟨_, _, _, _, _, _, rfl, rfl, ⟨_, _, _, _, _, _, rfl, rfl, ⟨_, _, _, _, _, _, rfl, rfl, rfl⟩⟩⟩⟩⟩⟩⟩⟩
theorem rp8 {K : PySem.W.Frag} {T : Tb} (h_prices : repB K (.tup []) (.ref (kwAt ("Paper", some "__init__") "prices" K)) = true) (h_sharing : repB K (.tup []) (.ref (kwAt ("Paper", some "__init__") "sharing" K)) = true) (h_other : repB K (.tup []) (.ref (kwAt ("Paper", some "__init__") "other" K)) = true) (h_people : repB K (.tup []) (.ref (kwAt ("Paper", some "__init__") "people" K)) = true) (h_goods : repB K (.tup []) (.ref (kwAt ("Paper", some "__init__") "goods" K)) = true) (h_targets : repB K (.tup []) (.ref (kwAt ("Paper", some "__init__") "targets" K)) = true) (h_weights : repB K (.tup []) (.ref (kwAt ("Paper", some "__init__") "weights" K)) = true) (h_factor : repB K (.tup [.int 0, .int 1]) (.ref (He.ga K "ZERO")) = true) (h_offer : repB K (.tup []) (.ref (kwAt ("Paper", some "__init__") "offer" K)) = true) (H : Hp) : Reps K T H [.tup [], .tup [], .tup [], .tup [], .tup [], .tup [], .tup [], .tup [.int 0, .int 1]] ((ms8 K).map (·.2)) := ⟨_, _, rfl, repB_ref h_prices H, ⟨_, _, rfl, repB_ref h_sharing H, ⟨_, _, rfl, repB_ref h_other H, ⟨_, _, rfl, repB_ref h_people H, ⟨_, _, rfl, repB_ref h_goods H, ⟨_, _, rfl, repB_ref h_targets H, ⟨_, _, rfl, repB_ref h_weights H, ⟨_, _, rfl, repB_ref h_factor H, rfl⟩⟩⟩⟩⟩⟩⟩⟩
def ms9 (K : PySem.W.Frag) : List (Str × V) := [("prices", .ref (kwAt ("Paper", some "__init__") "prices" K)), ("sharing", .ref (kwAt ("Paper", some "__init__") "sharing" K)), ("other", .ref (kwAt ("Paper", some "__init__") "other" K)), ("people", .ref (kwAt ("Paper", some "__init__") "people" K)), ("goods", .ref (kwAt ("Paper", some "__init__") "goods" K)), ("targets", .ref (kwAt ("Paper", some "__init__") "targets" K)), ("weights", .ref (kwAt ("Paper", some "__init__") "weights" K)), ("factor", .ref (He.ga K "ZERO")), ("offer", .ref (kwAt ("Paper", some "__init__") "offer" K))]
theorem kb9 {K : PySem.W.Frag} {fd : FuncData} {f : Addr} (F : FunD K d26.name d26.qual d26.params d26.body d26.scope [] (d26.kws K) f fd) : ∃ mv : List Value, KBn K fd ["self", "kind", "prices", "sharing", "other", "people", "goods", "targets", "weights", "factor", "offer"] 2 [] (fun us ws => pick [0, 1, 2, 3, 4, 5, 6, 7, 8, 9, 10] (us ++ (ws ++ mv))) (fun vs zs => pick [0, 1, 2, 3, 4, 5, 6, 7, 8, 9, 10] (vs ++ (zs ++ (ms9 K).map (·.2)))) :=
  F.kbinds0 (ps := ["self", "kind", "prices", "sharing", "other", "people", "goods", "targets", "weights", "factor", "offer"]) 2 [] (ms9 K) (fun us mv ws => pick [0, 1, 2, 3, 4, 5, 6, 7, 8, 9, 10] (us ++ (ws ++ mv))) (List.cons_ne_nil _ _) (List.Sublist.subset (show List.Sublist (ms9 K) (d26.kws K) from .cons₂ _ (.cons₂ _ (.cons₂ _ (.cons₂ _ (.cons₂ _ (.cons₂ _ (.cons₂ _ (.cons₂ _ (.cons₂ _ .slnil)))))))))) (fun a b c => vals_pick (a.append (c.append b)) (.inr True.intro)) fun D doc pm an cdv ct us mv ws h1 h2 h3 => match us, mv, ws, h1, h2, h3 with
    | [_, _], [_, _, _, _, _, _, _, _, _], [], _, _, _ => ⟨_, _, _, _, _, _, rfl, rfl, ⟨_, _, _, _, _, _, rfl, rfl, ⟨_, _, _, _, _, _, rfl, rfl, ⟨_, _, _, _, _, _, rfl, rfl, ⟨_, _, _, _, _, _, rfl, rfl, ⟨_, _, _, _, _, _, rfl, rfl, ⟨_, _, _, _, _, _, rfl, rfl, ⟨_, _, _, _, _, _, rfl, rfl, ⟨_, _, _, _, _, _, rfl, rfl, rfl⟩⟩⟩⟩⟩⟩⟩⟩⟩
theorem rp9 {K : PySem.W.Frag} {T : Tb} (h_prices : repB K (.tup []) (.ref (kwAt ("Paper", some "__init__") "prices" K)) = true) (h_sharing : repB K (.tup []) (.ref (kwAt ("Paper", some "__init__") "sharing" K)) = true) (h_other : repB K (.tup []) (.ref (kwAt ("Paper", some "__init__") "other" K)) = true) (h_people : repB K (.tup []) (.ref (kwAt ("Paper", some "__init__") "people" K)) = true) (h_goods : repB K (.tup []) (.ref (kwAt ("Paper", some "__init__") "goods" K)) = true) (h_targets : repB K (.tup []) (.ref (kwAt ("Paper", some "__init__") "targets" K)) = true) (h_weights : repB K (.tup []) (.ref (kwAt ("Paper", some "__init__") "weights" K)) = true) (h_factor : repB K (.tup [.int 0, .int 1]) (.ref (He.ga K "ZERO")) = true) (h_offer : repB K (.tup []) (.ref (kwAt ("Paper", some "__init__") "offer" K)) = true) (H : Hp) : Reps K T H [.tup [], .tup [], .tup [], .tup [], .tup [], .tup [], .tup [], .tup [.int 0, .int 1], .tup []] ((ms9 K).map (·.2)) := ⟨_, _, rfl, repB_ref h_prices H, ⟨_, _, rfl, repB_ref h_sharing H, ⟨_, _, rfl, repB_ref h_other H, ⟨_, _, rfl, repB_ref h_people H, ⟨_, _, rfl, repB_ref h_goods H, ⟨_, _, rfl, repB_ref h_targets H, ⟨_, _, rfl, repB_ref h_weights H, ⟨_, _, rfl, repB_ref h_factor H, ⟨_, _, rfl, repB_ref h_offer H, rfl⟩⟩⟩⟩⟩⟩⟩⟩⟩
def ms10 (K : PySem.W.Frag) : List (Str × V) := []
theorem kb10 {K : PySem.W.Frag} {fd : FuncData} {f : Addr} (F : FunD K d26.name d26.qual d26.params d26.body d26.scope [] (d26.kws K) f fd) : ∃ mv : List Value, KBn K fd ["self", "kind", "prices", "sharing", "other", "people", "goods", "targets", "weights", "factor", "offer"] 2 ["offer", "factor", "weights", "targets", "goods", "people", "other", "sharing", "prices"] (fun us ws => pick [0, 1, 10, 9, 8, 7, 6, 5, 4, 3, 2] (us ++ (ws ++ mv))) (fun vs zs => pick [0, 1, 10, 9, 8, 7, 6, 5, 4, 3, 2] (vs ++ (zs ++ (ms10 K).map (·.2)))) :=
  F.kbinds0 (ps := ["self", "kind", "prices", "sharing", "other", "people", "goods", "targets", "weights", "factor", "offer"]) 2 ["offer", "factor", "weights", "targets", "goods", "people", "other", "sharing", "prices"] (ms10 K) (fun us mv ws => pick [0, 1, 10, 9, 8, 7, 6, 5, 4, 3, 2] (us ++ (ws ++ mv))) (List.cons_ne_nil _ _) (List.Sublist.subset (show List.Sublist (ms10 K) (d26.kws K) from .cons _ (.cons _ (.cons _ (.cons _ (.cons _ (.cons _ (.cons _ (.cons _ (.cons _ .slnil)))))))))) (fun a b c => vals_pick (a.append (c.append b)) (.inr True.intro)) fun D doc pm an cdv ct us mv ws h1 h2 h3 => match us, mv, ws, h1, h2, h3 with
    | [_, _], [], [_, _, _, _, _, _, _, _, _], _, _, _ => rfl
theorem rp10 {K : PySem.W.Frag} {T : Tb} (h_prices : repB K (.tup []) (.ref (kwAt ("Paper", some "__init__") "prices" K)) = true) (h_sharing : repB K (.tup []) (.ref (kwAt ("Paper", some "__init__") "sharing" K)) = true) (h_other : repB K (.tup []) (.ref (kwAt ("Paper", some "__init__") "other" K)) = true) (h_people : repB K (.tup []) (.ref (kwAt ("Paper", some "__init__") "people" K)) = true) (h_goods : repB K (.tup []) (.ref (kwAt ("Paper", some "__init__") "goods" K)) = true) (h_targets : repB K (.tup []) (.ref (kwAt ("Paper", some "__init__") "targets" K)) = true) (h_weights : repB K (.tup []) (.ref (kwAt ("Paper", some "__init__") "weights" K)) = true) (h_factor : repB K (.tup [.int 0, .int 1]) (.ref (He.ga K "ZERO")) = true) (h_offer : repB K (.tup []) (.ref (kwAt ("Paper", some "__init__") "offer" K)) = true) (H : Hp) : Reps K T H [] ((ms10 K).map (·.2)) := rfl
section
variable {P : Program} {w : World} {K : PySem.W.Frag} {mg : Str → Option Value} {h base : Heap}
theorem ex_all (e : ex K = true) : wdB K cs ats M cons fl = true ∧ noL K = true ∧ repB K (.tup []) (.ref (kwAt ("Paper", some "__init__") "prices" K)) = true ∧ repB K (.tup []) (.ref (kwAt ("Paper", some "__init__") "sharing" K)) = true ∧ repB K (.tup []) (.ref (kwAt ("Paper", some "__init__") "other" K)) = true ∧ repB K (.tup []) (.ref (kwAt ("Paper", some "__init__") "people" K)) = true ∧ repB K (.tup []) (.ref (kwAt ("Paper", some "__init__") "goods" K)) = true ∧ repB K (.tup []) (.ref (kwAt ("Paper", some "__init__") "targets" K)) = true ∧ repB K (.tup []) (.ref (kwAt ("Paper", some "__init__") "weights" K)) = true ∧ repB K (.tup []) (.ref (kwAt ("Paper", some "__init__") "offer" K)) = true ∧ repB K (.tup [.int 0, .int 1]) (.ref (He.ga K "ZERO")) = true := by
  unfold ex at e
  simp only [Bool.and_eq_true] at e
  obtain ⟨⟨e1, e2⟩, e3, e4⟩ := e
  simp only [e1, e2, e3, e4, and_self]
structure Sofar (P : Program) (w : World) (K : PySem.W.Frag) (mg : Str → Option Value) (base : Heap) (G : Gl) (n k : Nat) : Prop where
  a : Fns P w K mg base (TT K) M G n k
  b : Fks P w K mg base (TT K) M G n k
  c : Wd K mg (TT K) M G
theorem nokw {n : Nat} {p : Nat → Kw → Prop} (hn : M.kw.all (fun κ => κ.f != n) = true) : ∀ (m : Nat) (κ : Kw), M.kw[m]? = some κ → κ.f = n → p m κ := fun m κ e hf => by
  have := List.all_eq_true.mp hn κ (List.mem_of_getElem? e)
  rw [hf] at this
  simp at this
theorem ok_f0 {fd : FuncData} (F : FunD K d0.name d0.qual d0.params d0.body d0.scope [] (d0.kws K) (He.fAd K d0.at_) fd) (s : Sofar P w K mg base g0 0 0) : FnOk P w K mg base (L2.CX P w) 2 ((TT K).fn 0) fd ["rows"] (spM K (TT K) ⟨true, "frozen", 1, [0], false⟩ f0) :=
  fn_M (i := ⟨true, "frozen", 1, [0], false⟩) F sc0 s.c s.a s.b rfl rfl (by decide) ok0
theorem st0 {fd : FuncData} (F : FunD K d0.name d0.qual d0.params d0.body d0.scope [] (d0.kws K) (He.fAd K d0.at_) fd) (s : Sofar P w K mg base g0 0 0) : Sofar P w K mg base g1 1 2 :=
  ⟨s.a.push (by decide) rfl fun _ => ⟨fd, _, F.bindsN fun _ _ _ _ _ _ us hl => match us, hl with | [_], _ => rfl, ok_f0 F s⟩, s.b.push (by decide) rfl (nokw rfl), s.c.push⟩
theorem ok_f1 {fd : FuncData} (F : FunD K d29.name d29.qual d29.params d29.body d29.scope [] (d29.kws K) (He.fAd K d29.at_) fd) (s : Sofar P w K mg base g1 1 2) : FnOk P w K mg base (L2.CX P w) 4 ((TT K).fn 1) fd ["self", "prices", "sharing", "totals"] (spM K (TT K) ⟨false, "__init__", 4, [0, 1, 2, 3], false⟩ f1) :=
  fn_M (i := ⟨false, "__init__", 4, [0, 1, 2, 3], false⟩) F sc1 s.c s.a s.b rfl rfl (by decide) ok1
theorem st1 {fd : FuncData} (F : FunD K d29.name d29.qual d29.params d29.body d29.scope [] (d29.kws K) (He.fAd K d29.at_) fd) (s : Sofar P w K mg base g1 1 2) : Sofar P w K mg base g2 2 4 :=
  ⟨s.a.push (by decide) rfl fun _ => ⟨fd, _, F.bindsN fun _ _ _ _ _ _ us hl => match us, hl with | [_, _, _, _], _ => rfl, ok_f1 F s⟩, s.b.push (by decide) rfl (nokw rfl), s.c.push⟩
theorem ok_f2 {fd : FuncData} (F : FunD K d27.name d27.qual d27.params d27.body d27.scope [] (d27.kws K) (He.fAd K d27.at_) fd) (s : Sofar P w K mg base g2 2 4) : FnOk P w K mg base (L2.CX P w) 6 ((TT K).fn 2) fd ["self", "total", "amounts", "lefts", "rights"] (spM K (TT K) ⟨false, "__init__", 5, [0, 2, 3, 4], false⟩ f2) :=
  fn_M (i := ⟨false, "__init__", 5, [0, 2, 3, 4], false⟩) F sc2 s.c s.a s.b rfl rfl (by decide) ok2
theorem st2 {fd : FuncData} (F : FunD K d27.name d27.qual d27.params d27.body d27.scope [] (d27.kws K) (He.fAd K d27.at_) fd) (s : Sofar P w K mg base g2 2 4) : Sofar P w K mg base g3 3 6 :=
  ⟨s.a.push (by decide) rfl fun _ => ⟨fd, _, F.bindsN fun _ _ _ _ _ _ us hl => match us, hl with | [_, _, _, _, _], _ => rfl, ok_f2 F s⟩, s.b.push (by decide) rfl (nokw rfl), s.c.push⟩
theorem ok_f3 {fd : FuncData} (F : FunD K d28.name d28.qual d28.params d28.body d28.scope [] (d28.kws K) (He.fAd K d28.at_) fd) (s : Sofar P w K mg base g3 3 6) : FnOk P w K mg base (L2.CX P w) 8 ((TT K).fn 3) fd ["self", "factor", "weights", "offer"] (spM K (TT K) ⟨false, "__init__", 4, [0, 2, 3], false⟩ f3) :=
  fn_M (i := ⟨false, "__init__", 4, [0, 2, 3], false⟩) F sc3 s.c s.a s.b rfl rfl (by decide) ok3
theorem st3 {fd : FuncData} (F : FunD K d28.name d28.qual d28.params d28.body d28.scope [] (d28.kws K) (He.fAd K d28.at_) fd) (s : Sofar P w K mg base g3 3 6) : Sofar P w K mg base g4 4 8 :=
  ⟨s.a.push (by decide) rfl fun _ => ⟨fd, _, F.bindsN fun _ _ _ _ _ _ us hl => match us, hl with | [_, _, _, _], _ => rfl, ok_f3 F s⟩, s.b.push (by decide) rfl (nokw rfl), s.c.push⟩
theorem ok_f4 {fd : FuncData} (F : FunD K d29.name d29.qual d29.params d29.body d29.scope [] (d29.kws K) (He.fAd K d29.at_) fd) (s : Sofar P w K mg base g4 4 8) : FnOk P w K mg base (L2.CX P w) 10 ((TT K).fn 4) fd ["self", "prices", "sharing", "totals"] (spM K (TT K) ⟨false, "__init__", 4, [0], false⟩ f4) :=
  fn_M (i := ⟨false, "__init__", 4, [0], false⟩) F sc4 s.c s.a s.b rfl rfl (by decide) ok4
theorem st4 {fd : FuncData} (F : FunD K d29.name d29.qual d29.params d29.body d29.scope [] (d29.kws K) (He.fAd K d29.at_) fd) (s : Sofar P w K mg base g4 4 8) : Sofar P w K mg base g5 5 10 :=
  ⟨s.a.push (by decide) rfl fun _ => ⟨fd, _, F.bindsN fun _ _ _ _ _ _ us hl => match us, hl with | [_, _, _, _], _ => rfl, ok_f4 F s⟩, s.b.push (by decide) rfl (nokw rfl), s.c.push⟩
theorem ok_f5 {fd : FuncData} (F : FunD K d26.name d26.qual d26.params d26.body d26.scope [] (d26.kws K) (He.fAd K d26.at_) fd) (s : Sofar P w K mg base g5 5 10) : FnOk P w K mg base (L2.CX P w) 12 ((TT K).fn 5) fd ["self", "kind", "prices", "sharing", "other", "people", "goods", "targets", "weights", "factor", "offer"] (spM K (TT K) ⟨false, "__init__", 11, [0, 2], true⟩ f5) :=
  fn_M (i := ⟨false, "__init__", 11, [0, 2], true⟩) F sc5 s.c s.a s.b rfl rfl (by decide) ok5
theorem st5 {fd : FuncData} (F : FunD K d26.name d26.qual d26.params d26.body d26.scope [] (d26.kws K) (He.fAd K d26.at_) fd) (s : Sofar P w K mg base g5 5 10) (h_prices : repB K (.tup []) (.ref (kwAt ("Paper", some "__init__") "prices" K)) = true) (h_sharing : repB K (.tup []) (.ref (kwAt ("Paper", some "__init__") "sharing" K)) = true) (h_other : repB K (.tup []) (.ref (kwAt ("Paper", some "__init__") "other" K)) = true) (h_people : repB K (.tup []) (.ref (kwAt ("Paper", some "__init__") "people" K)) = true) (h_goods : repB K (.tup []) (.ref (kwAt ("Paper", some "__init__") "goods" K)) = true) (h_targets : repB K (.tup []) (.ref (kwAt ("Paper", some "__init__") "targets" K)) = true) (h_weights : repB K (.tup []) (.ref (kwAt ("Paper", some "__init__") "weights" K)) = true) (h_factor : repB K (.tup [.int 0, .int 1]) (.ref (He.ga K "ZERO")) = true) (h_offer : repB K (.tup []) (.ref (kwAt ("Paper", some "__init__") "offer" K)) = true) : Sofar P w K mg base g6 6 12 := by
  refine ⟨s.a.push (by decide) rfl (fun z => nomatch z), s.b.push (by decide) rfl fun m κ hm hf => ?_, s.c.push⟩
  have hml : m < 11 := (List.getElem?_eq_some_iff.mp hm).1
  match m with
    | 0 => cases hm; obtain ⟨mv, kb⟩ := kb0 F; exact ⟨fd, _, mv, _, kb, rp0 h_prices h_sharing h_other h_people h_goods h_targets h_weights h_factor h_offer, ok_f5 F s⟩
    | 1 => cases hm; exact absurd hf (by decide)
    | 2 => cases hm; exact absurd hf (by decide)
    | 3 => cases hm; exact absurd hf (by decide)
    | 4 => cases hm; exact absurd hf (by decide)
    | 5 => cases hm; exact absurd hf (by decide)
    | 6 => cases hm; exact absurd hf (by decide)
    | 7 => cases hm; exact absurd hf (by decide)
    | 8 => cases hm; exact absurd hf (by decide)
    | 9 => cases hm; exact absurd hf (by decide)
    | 10 => cases hm; exact absurd hf (by decide)
    | m + 11 => exact absurd hml (by omega)
theorem ok_f6 {fd : FuncData} (F : FunD K d26.name d26.qual d26.params d26.body d26.scope [] (d26.kws K) (He.fAd K d26.at_) fd) (s : Sofar P w K mg base g6 6 12) : FnOk P w K mg base (L2.CX P w) 14 ((TT K).fn 6) fd ["self", "kind", "prices", "sharing", "other", "people", "goods", "targets", "weights", "factor", "offer"] (spM K (TT K) ⟨false, "__init__", 11, [0, 3], true⟩ f6) :=
  fn_M (i := ⟨false, "__init__", 11, [0, 3], true⟩) F sc6 s.c s.a s.b rfl rfl (by decide) ok6
theorem st6 {fd : FuncData} (F : FunD K d26.name d26.qual d26.params d26.body d26.scope [] (d26.kws K) (He.fAd K d26.at_) fd) (s : Sofar P w K mg base g6 6 12) (h_prices : repB K (.tup []) (.ref (kwAt ("Paper", some "__init__") "prices" K)) = true) (h_sharing : repB K (.tup []) (.ref (kwAt ("Paper", some "__init__") "sharing" K)) = true) (h_other : repB K (.tup []) (.ref (kwAt ("Paper", some "__init__") "other" K)) = true) (h_people : repB K (.tup []) (.ref (kwAt ("Paper", some "__init__") "people" K)) = true) (h_goods : repB K (.tup []) (.ref (kwAt ("Paper", some "__init__") "goods" K)) = true) (h_targets : repB K (.tup []) (.ref (kwAt ("Paper", some "__init__") "targets" K)) = true) (h_weights : repB K (.tup []) (.ref (kwAt ("Paper", some "__init__") "weights" K)) = true) (h_factor : repB K (.tup [.int 0, .int 1]) (.ref (He.ga K "ZERO")) = true) (h_offer : repB K (.tup []) (.ref (kwAt ("Paper", some "__init__") "offer" K)) = true) : Sofar P w K mg base g7 7 14 := by
  refine ⟨s.a.push (by decide) rfl (fun z => nomatch z), s.b.push (by decide) rfl fun m κ hm hf => ?_, s.c.push⟩
  have hml : m < 11 := (List.getElem?_eq_some_iff.mp hm).1
  match m with
    | 0 => cases hm; exact absurd hf (by decide)
    | 1 => cases hm; obtain ⟨mv, kb⟩ := kb1 F; exact ⟨fd, _, mv, _, kb, rp1 h_prices h_sharing h_other h_people h_goods h_targets h_weights h_factor h_offer, ok_f6 F s⟩
    | 2 => cases hm; exact absurd hf (by decide)
    | 3 => cases hm; exact absurd hf (by decide)
    | 4 => cases hm; exact absurd hf (by decide)
    | 5 => cases hm; exact absurd hf (by decide)
    | 6 => cases hm; exact absurd hf (by decide)
    | 7 => cases hm; exact absurd hf (by decide)
    | 8 => cases hm; exact absurd hf (by decide)
    | 9 => cases hm; exact absurd hf (by decide)
    | 10 => cases hm; exact absurd hf (by decide)
    | m + 11 => exact absurd hml (by omega)
theorem ok_f7 {fd : FuncData} (F : FunD K d26.name d26.qual d26.params d26.body d26.scope [] (d26.kws K) (He.fAd K d26.at_) fd) (s : Sofar P w K mg base g7 7 14) : FnOk P w K mg base (L2.CX P w) 16 ((TT K).fn 7) fd ["self", "kind", "prices", "sharing", "other", "people", "goods", "targets", "weights", "factor", "offer"] (spM K (TT K) ⟨false, "__init__", 11, [0, 4], true⟩ f7) :=
  fn_M (i := ⟨false, "__init__", 11, [0, 4], true⟩) F sc7 s.c s.a s.b rfl rfl (by decide) ok7
theorem st7 {fd : FuncData} (F : FunD K d26.name d26.qual d26.params d26.body d26.scope [] (d26.kws K) (He.fAd K d26.at_) fd) (s : Sofar P w K mg base g7 7 14) (h_prices : repB K (.tup []) (.ref (kwAt ("Paper", some "__init__") "prices" K)) = true) (h_sharing : repB K (.tup []) (.ref (kwAt ("Paper", some "__init__") "sharing" K)) = true) (h_other : repB K (.tup []) (.ref (kwAt ("Paper", some "__init__") "other" K)) = true) (h_people : repB K (.tup []) (.ref (kwAt ("Paper", some "__init__") "people" K)) = true) (h_goods : repB K (.tup []) (.ref (kwAt ("Paper", some "__init__") "goods" K)) = true) (h_targets : repB K (.tup []) (.ref (kwAt ("Paper", some "__init__") "targets" K)) = true) (h_weights : repB K (.tup []) (.ref (kwAt ("Paper", some "__init__") "weights" K)) = true) (h_factor : repB K (.tup [.int 0, .int 1]) (.ref (He.ga K "ZERO")) = true) (h_offer : repB K (.tup []) (.ref (kwAt ("Paper", some "__init__") "offer" K)) = true) : Sofar P w K mg base g8 8 16 := by
  refine ⟨s.a.push (by decide) rfl (fun z => nomatch z), s.b.push (by decide) rfl fun m κ hm hf => ?_, s.c.push⟩
  have hml : m < 11 := (List.getElem?_eq_some_iff.mp hm).1
  match m with
    | 0 => cases hm; exact absurd hf (by decide)
    | 1 => cases hm; exact absurd hf (by decide)
    | 2 => cases hm; obtain ⟨mv, kb⟩ := kb2 F; exact ⟨fd, _, mv, _, kb, rp2 h_prices h_sharing h_other h_people h_goods h_targets h_weights h_factor h_offer, ok_f7 F s⟩
    | 3 => cases hm; exact absurd hf (by decide)
    | 4 => cases hm; exact absurd hf (by decide)
    | 5 => cases hm; exact absurd hf (by decide)
    | 6 => cases hm; exact absurd hf (by decide)
    | 7 => cases hm; exact absurd hf (by decide)
    | 8 => cases hm; exact absurd hf (by decide)
    | 9 => cases hm; exact absurd hf (by decide)
    | 10 => cases hm; exact absurd hf (by decide)
    | m + 11 => exact absurd hml (by omega)
theorem ok_f8 {fd : FuncData} (F : FunD K d26.name d26.qual d26.params d26.body d26.scope [] (d26.kws K) (He.fAd K d26.at_) fd) (s : Sofar P w K mg base g8 8 16) : FnOk P w K mg base (L2.CX P w) 18 ((TT K).fn 8) fd ["self", "kind", "prices", "sharing", "other", "people", "goods", "targets", "weights", "factor", "offer"] (spM K (TT K) ⟨false, "__init__", 11, [0, 5], true⟩ f8) :=
  fn_M (i := ⟨false, "__init__", 11, [0, 5], true⟩) F sc8 s.c s.a s.b rfl rfl (by decide) ok8
theorem st8 {fd : FuncData} (F : FunD K d26.name d26.qual d26.params d26.body d26.scope [] (d26.kws K) (He.fAd K d26.at_) fd) (s : Sofar P w K mg base g8 8 16) (h_prices : repB K (.tup []) (.ref (kwAt ("Paper", some "__init__") "prices" K)) = true) (h_sharing : repB K (.tup []) (.ref (kwAt ("Paper", some "__init__") "sharing" K)) = true) (h_other : repB K (.tup []) (.ref (kwAt ("Paper", some "__init__") "other" K)) = true) (h_people : repB K (.tup []) (.ref (kwAt ("Paper", some "__init__") "people" K)) = true) (h_goods : repB K (.tup []) (.ref (kwAt ("Paper", some "__init__") "goods" K)) = true) (h_targets : repB K (.tup []) (.ref (kwAt ("Paper", some "__init__") "targets" K)) = true) (h_weights : repB K (.tup []) (.ref (kwAt ("Paper", some "__init__") "weights" K)) = true) (h_factor : repB K (.tup [.int 0, .int 1]) (.ref (He.ga K "ZERO")) = true) (h_offer : repB K (.tup []) (.ref (kwAt ("Paper", some "__init__") "offer" K)) = true) : Sofar P w K mg base g9 9 18 := by
  refine ⟨s.a.push (by decide) rfl (fun z => nomatch z), s.b.push (by decide) rfl fun m κ hm hf => ?_, s.c.push⟩
  have hml : m < 11 := (List.getElem?_eq_some_iff.mp hm).1
  match m with
    | 0 => cases hm; exact absurd hf (by decide)
    | 1 => cases hm; exact absurd hf (by decide)
    | 2 => cases hm; exact absurd hf (by decide)
    | 3 => cases hm; obtain ⟨mv, kb⟩ := kb3 F; exact ⟨fd, _, mv, _, kb, rp3 h_prices h_sharing h_other h_people h_goods h_targets h_weights h_factor h_offer, ok_f8 F s⟩
    | 4 => cases hm; exact absurd hf (by decide)
    | 5 => cases hm; exact absurd hf (by decide)
    | 6 => cases hm; exact absurd hf (by decide)
    | 7 => cases hm; exact absurd hf (by decide)
    | 8 => cases hm; exact absurd hf (by decide)
    | 9 => cases hm; exact absurd hf (by decide)
    | 10 => cases hm; exact absurd hf (by decide)
    | m + 11 => exact absurd hml (by omega)
theorem ok_f9 {fd : FuncData} (F : FunD K d26.name d26.qual d26.params d26.body d26.scope [] (d26.kws K) (He.fAd K d26.at_) fd) (s : Sofar P w K mg base g9 9 18) : FnOk P w K mg base (L2.CX P w) 20 ((TT K).fn 9) fd ["self", "kind", "prices", "sharing", "other", "people", "goods", "targets", "weights", "factor", "offer"] (spM K (TT K) ⟨false, "__init__", 11, [0, 6], true⟩ f9) :=
  fn_M (i := ⟨false, "__init__", 11, [0, 6], true⟩) F sc9 s.c s.a s.b rfl rfl (by decide) ok9
theorem st9 {fd : FuncData} (F : FunD K d26.name d26.qual d26.params d26.body d26.scope [] (d26.kws K) (He.fAd K d26.at_) fd) (s : Sofar P w K mg base g9 9 18) (h_prices : repB K (.tup []) (.ref (kwAt ("Paper", some "__init__") "prices" K)) = true) (h_sharing : repB K (.tup []) (.ref (kwAt ("Paper", some "__init__") "sharing" K)) = true) (h_other : repB K (.tup []) (.ref (kwAt ("Paper", some "__init__") "other" K)) = true) (h_people : repB K (.tup []) (.ref (kwAt ("Paper", some "__init__") "people" K)) = true) (h_goods : repB K (.tup []) (.ref (kwAt ("Paper", some "__init__") "goods" K)) = true) (h_targets : repB K (.tup []) (.ref (kwAt ("Paper", some "__init__") "targets" K)) = true) (h_weights : repB K (.tup []) (.ref (kwAt ("Paper", some "__init__") "weights" K)) = true) (h_factor : repB K (.tup [.int 0, .int 1]) (.ref (He.ga K "ZERO")) = true) (h_offer : repB K (.tup []) (.ref (kwAt ("Paper", some "__init__") "offer" K)) = true) : Sofar P w K mg base g10 10 20 := by
  refine ⟨s.a.push (by decide) rfl (fun z => nomatch z), s.b.push (by decide) rfl fun m κ hm hf => ?_, s.c.push⟩
  have hml : m < 11 := (List.getElem?_eq_some_iff.mp hm).1
  match m with
    | 0 => cases hm; exact absurd hf (by decide)
    | 1 => cases hm; exact absurd hf (by decide)
    | 2 => cases hm; exact absurd hf (by decide)
    | 3 => cases hm; exact absurd hf (by decide)
    | 4 => cases hm; obtain ⟨mv, kb⟩ := kb4 F; exact ⟨fd, _, mv, _, kb, rp4 h_prices h_sharing h_other h_people h_goods h_targets h_weights h_factor h_offer, ok_f9 F s⟩
    | 5 => cases hm; exact absurd hf (by decide)
    | 6 => cases hm; exact absurd hf (by decide)
    | 7 => cases hm; exact absurd hf (by decide)
    | 8 => cases hm; exact absurd hf (by decide)
    | 9 => cases hm; exact absurd hf (by decide)
    | 10 => cases hm; exact absurd hf (by decide)
    | m + 11 => exact absurd hml (by omega)
theorem ok_f10 {fd : FuncData} (F : FunD K d26.name d26.qual d26.params d26.body d26.scope [] (d26.kws K) (He.fAd K d26.at_) fd) (s : Sofar P w K mg base g10 10 20) : FnOk P w K mg base (L2.CX P w) 22 ((TT K).fn 10) fd ["self", "kind", "prices", "sharing", "other", "people", "goods", "targets", "weights", "factor", "offer"] (spM K (TT K) ⟨false, "__init__", 11, [0, 7], true⟩ f10) :=
  fn_M (i := ⟨false, "__init__", 11, [0, 7], true⟩) F sc10 s.c s.a s.b rfl rfl (by decide) ok10
theorem st10 {fd : FuncData} (F : FunD K d26.name d26.qual d26.params d26.body d26.scope [] (d26.kws K) (He.fAd K d26.at_) fd) (s : Sofar P w K mg base g10 10 20) (h_prices : repB K (.tup []) (.ref (kwAt ("Paper", some "__init__") "prices" K)) = true) (h_sharing : repB K (.tup []) (.ref (kwAt ("Paper", some "__init__") "sharing" K)) = true) (h_other : repB K (.tup []) (.ref (kwAt ("Paper", some "__init__") "other" K)) = true) (h_people : repB K (.tup []) (.ref (kwAt ("Paper", some "__init__") "people" K)) = true) (h_goods : repB K (.tup []) (.ref (kwAt ("Paper", some "__init__") "goods" K)) = true) (h_targets : repB K (.tup []) (.ref (kwAt ("Paper", some "__init__") "targets" K)) = true) (h_weights : repB K (.tup []) (.ref (kwAt ("Paper", some "__init__") "weights" K)) = true) (h_factor : repB K (.tup [.int 0, .int 1]) (.ref (He.ga K "ZERO")) = true) (h_offer : repB K (.tup []) (.ref (kwAt ("Paper", some "__init__") "offer" K)) = true) : Sofar P w K mg base g11 11 22 := by
  refine ⟨s.a.push (by decide) rfl (fun z => nomatch z), s.b.push (by decide) rfl fun m κ hm hf => ?_, s.c.push⟩
  have hml : m < 11 := (List.getElem?_eq_some_iff.mp hm).1
  match m with
    | 0 => cases hm; exact absurd hf (by decide)
    | 1 => cases hm; exact absurd hf (by decide)
    | 2 => cases hm; exact absurd hf (by decide)
    | 3 => cases hm; exact absurd hf (by decide)
    | 4 => cases hm; exact absurd hf (by decide)
    | 5 => cases hm; obtain ⟨mv, kb⟩ := kb5 F; exact ⟨fd, _, mv, _, kb, rp5 h_prices h_sharing h_other h_people h_goods h_targets h_weights h_factor h_offer, ok_f10 F s⟩
    | 6 => cases hm; exact absurd hf (by decide)
    | 7 => cases hm; exact absurd hf (by decide)
    | 8 => cases hm; exact absurd hf (by decide)
    | 9 => cases hm; exact absurd hf (by decide)
    | 10 => cases hm; exact absurd hf (by decide)
    | m + 11 => exact absurd hml (by omega)
theorem ok_f11 {fd : FuncData} (F : FunD K d26.name d26.qual d26.params d26.body d26.scope [] (d26.kws K) (He.fAd K d26.at_) fd) (s : Sofar P w K mg base g11 11 22) : FnOk P w K mg base (L2.CX P w) 24 ((TT K).fn 11) fd ["self", "kind", "prices", "sharing", "other", "people", "goods", "targets", "weights", "factor", "offer"] (spM K (TT K) ⟨false, "__init__", 11, [0, 8], true⟩ f11) :=
  fn_M (i := ⟨false, "__init__", 11, [0, 8], true⟩) F sc11 s.c s.a s.b rfl rfl (by decide) ok11
theorem st11 {fd : FuncData} (F : FunD K d26.name d26.qual d26.params d26.body d26.scope [] (d26.kws K) (He.fAd K d26.at_) fd) (s : Sofar P w K mg base g11 11 22) (h_prices : repB K (.tup []) (.ref (kwAt ("Paper", some "__init__") "prices" K)) = true) (h_sharing : repB K (.tup []) (.ref (kwAt ("Paper", some "__init__") "sharing" K)) = true) (h_other : repB K (.tup []) (.ref (kwAt ("Paper", some "__init__") "other" K)) = true) (h_people : repB K (.tup []) (.ref (kwAt ("Paper", some "__init__") "people" K)) = true) (h_goods : repB K (.tup []) (.ref (kwAt ("Paper", some "__init__") "goods" K)) = true) (h_targets : repB K (.tup []) (.ref (kwAt ("Paper", some "__init__") "targets" K)) = true) (h_weights : repB K (.tup []) (.ref (kwAt ("Paper", some "__init__") "weights" K)) = true) (h_factor : repB K (.tup [.int 0, .int 1]) (.ref (He.ga K "ZERO")) = true) (h_offer : repB K (.tup []) (.ref (kwAt ("Paper", some "__init__") "offer" K)) = true) : Sofar P w K mg base g12 12 24 := by
  refine ⟨s.a.push (by decide) rfl (fun z => nomatch z), s.b.push (by decide) rfl fun m κ hm hf => ?_, s.c.push⟩
  have hml : m < 11 := (List.getElem?_eq_some_iff.mp hm).1
  match m with
    | 0 => cases hm; exact absurd hf (by decide)
    | 1 => cases hm; exact absurd hf (by decide)
    | 2 => cases hm; exact absurd hf (by decide)
    | 3 => cases hm; exact absurd hf (by decide)
    | 4 => cases hm; exact absurd hf (by decide)
    | 5 => cases hm; exact absurd hf (by decide)
    | 6 => cases hm; obtain ⟨mv, kb⟩ := kb6 F; exact ⟨fd, _, mv, _, kb, rp6 h_prices h_sharing h_other h_people h_goods h_targets h_weights h_factor h_offer, ok_f11 F s⟩
    | 7 => cases hm; exact absurd hf (by decide)
    | 8 => cases hm; exact absurd hf (by decide)
    | 9 => cases hm; exact absurd hf (by decide)
    | 10 => cases hm; exact absurd hf (by decide)
    | m + 11 => exact absurd hml (by omega)
theorem ok_f12 {fd : FuncData} (F : FunD K d26.name d26.qual d26.params d26.body d26.scope [] (d26.kws K) (He.fAd K d26.at_) fd) (s : Sofar P w K mg base g12 12 24) : FnOk P w K mg base (L2.CX P w) 26 ((TT K).fn 12) fd ["self", "kind", "prices", "sharing", "other", "people", "goods", "targets", "weights", "factor", "offer"] (spM K (TT K) ⟨false, "__init__", 11, [0, 9], true⟩ f12) :=
  fn_M (i := ⟨false, "__init__", 11, [0, 9], true⟩) F sc12 s.c s.a s.b rfl rfl (by decide) ok12
theorem st12 {fd : FuncData} (F : FunD K d26.name d26.qual d26.params d26.body d26.scope [] (d26.kws K) (He.fAd K d26.at_) fd) (s : Sofar P w K mg base g12 12 24) (h_prices : repB K (.tup []) (.ref (kwAt ("Paper", some "__init__") "prices" K)) = true) (h_sharing : repB K (.tup []) (.ref (kwAt ("Paper", some "__init__") "sharing" K)) = true) (h_other : repB K (.tup []) (.ref (kwAt ("Paper", some "__init__") "other" K)) = true) (h_people : repB K (.tup []) (.ref (kwAt ("Paper", some "__init__") "people" K)) = true) (h_goods : repB K (.tup []) (.ref (kwAt ("Paper", some "__init__") "goods" K)) = true) (h_targets : repB K (.tup []) (.ref (kwAt ("Paper", some "__init__") "targets" K)) = true) (h_weights : repB K (.tup []) (.ref (kwAt ("Paper", some "__init__") "weights" K)) = true) (h_factor : repB K (.tup [.int 0, .int 1]) (.ref (He.ga K "ZERO")) = true) (h_offer : repB K (.tup []) (.ref (kwAt ("Paper", some "__init__") "offer" K)) = true) : Sofar P w K mg base g13 13 26 := by
  refine ⟨s.a.push (by decide) rfl (fun z => nomatch z), s.b.push (by decide) rfl fun m κ hm hf => ?_, s.c.push⟩
  have hml : m < 11 := (List.getElem?_eq_some_iff.mp hm).1
  match m with
    | 0 => cases hm; exact absurd hf (by decide)
    | 1 => cases hm; exact absurd hf (by decide)
    | 2 => cases hm; exact absurd hf (by decide)
    | 3 => cases hm; exact absurd hf (by decide)
    | 4 => cases hm; exact absurd hf (by decide)
    | 5 => cases hm; exact absurd hf (by decide)
    | 6 => cases hm; exact absurd hf (by decide)
    | 7 => cases hm; obtain ⟨mv, kb⟩ := kb7 F; exact ⟨fd, _, mv, _, kb, rp7 h_prices h_sharing h_other h_people h_goods h_targets h_weights h_factor h_offer, ok_f12 F s⟩
    | 8 => cases hm; exact absurd hf (by decide)
    | 9 => cases hm; exact absurd hf (by decide)
    | 10 => cases hm; exact absurd hf (by decide)
    | m + 11 => exact absurd hml (by omega)
theorem ok_f13 {fd : FuncData} (F : FunD K d26.name d26.qual d26.params d26.body d26.scope [] (d26.kws K) (He.fAd K d26.at_) fd) (s : Sofar P w K mg base g13 13 26) : FnOk P w K mg base (L2.CX P w) 28 ((TT K).fn 13) fd ["self", "kind", "prices", "sharing", "other", "people", "goods", "targets", "weights", "factor", "offer"] (spM K (TT K) ⟨false, "__init__", 11, [0, 10], true⟩ f13) :=
  fn_M (i := ⟨false, "__init__", 11, [0, 10], true⟩) F sc13 s.c s.a s.b rfl rfl (by decide) ok13
theorem st13 {fd : FuncData} (F : FunD K d26.name d26.qual d26.params d26.body d26.scope [] (d26.kws K) (He.fAd K d26.at_) fd) (s : Sofar P w K mg base g13 13 26) (h_prices : repB K (.tup []) (.ref (kwAt ("Paper", some "__init__") "prices" K)) = true) (h_sharing : repB K (.tup []) (.ref (kwAt ("Paper", some "__init__") "sharing" K)) = true) (h_other : repB K (.tup []) (.ref (kwAt ("Paper", some "__init__") "other" K)) = true) (h_people : repB K (.tup []) (.ref (kwAt ("Paper", some "__init__") "people" K)) = true) (h_goods : repB K (.tup []) (.ref (kwAt ("Paper", some "__init__") "goods" K)) = true) (h_targets : repB K (.tup []) (.ref (kwAt ("Paper", some "__init__") "targets" K)) = true) (h_weights : repB K (.tup []) (.ref (kwAt ("Paper", some "__init__") "weights" K)) = true) (h_factor : repB K (.tup [.int 0, .int 1]) (.ref (He.ga K "ZERO")) = true) (h_offer : repB K (.tup []) (.ref (kwAt ("Paper", some "__init__") "offer" K)) = true) : Sofar P w K mg base g14 14 28 := by
  refine ⟨s.a.push (by decide) rfl (fun z => nomatch z), s.b.push (by decide) rfl fun m κ hm hf => ?_, s.c.push⟩
  have hml : m < 11 := (List.getElem?_eq_some_iff.mp hm).1
  match m with
    | 0 => cases hm; exact absurd hf (by decide)
    | 1 => cases hm; exact absurd hf (by decide)
    | 2 => cases hm; exact absurd hf (by decide)
    | 3 => cases hm; exact absurd hf (by decide)
    | 4 => cases hm; exact absurd hf (by decide)
    | 5 => cases hm; exact absurd hf (by decide)
    | 6 => cases hm; exact absurd hf (by decide)
    | 7 => cases hm; exact absurd hf (by decide)
    | 8 => cases hm; obtain ⟨mv, kb⟩ := kb8 F; exact ⟨fd, _, mv, _, kb, rp8 h_prices h_sharing h_other h_people h_goods h_targets h_weights h_factor h_offer, ok_f13 F s⟩
    | 9 => cases hm; exact absurd hf (by decide)
    | 10 => cases hm; exact absurd hf (by decide)
    | m + 11 => exact absurd hml (by omega)
theorem ok_f14 {fd : FuncData} (F : FunD K d26.name d26.qual d26.params d26.body d26.scope [] (d26.kws K) (He.fAd K d26.at_) fd) (s : Sofar P w K mg base g14 14 28) : FnOk P w K mg base (L2.CX P w) 30 ((TT K).fn 14) fd ["self", "kind", "prices", "sharing", "other", "people", "goods", "targets", "weights", "factor", "offer"] (spM K (TT K) ⟨false, "__init__", 11, [0], true⟩ f14) :=
  fn_M (i := ⟨false, "__init__", 11, [0], true⟩) F sc14 s.c s.a s.b rfl rfl (by decide) ok14
theorem st14 {fd : FuncData} (F : FunD K d26.name d26.qual d26.params d26.body d26.scope [] (d26.kws K) (He.fAd K d26.at_) fd) (s : Sofar P w K mg base g14 14 28) (h_prices : repB K (.tup []) (.ref (kwAt ("Paper", some "__init__") "prices" K)) = true) (h_sharing : repB K (.tup []) (.ref (kwAt ("Paper", some "__init__") "sharing" K)) = true) (h_other : repB K (.tup []) (.ref (kwAt ("Paper", some "__init__") "other" K)) = true) (h_people : repB K (.tup []) (.ref (kwAt ("Paper", some "__init__") "people" K)) = true) (h_goods : repB K (.tup []) (.ref (kwAt ("Paper", some "__init__") "goods" K)) = true) (h_targets : repB K (.tup []) (.ref (kwAt ("Paper", some "__init__") "targets" K)) = true) (h_weights : repB K (.tup []) (.ref (kwAt ("Paper", some "__init__") "weights" K)) = true) (h_factor : repB K (.tup [.int 0, .int 1]) (.ref (He.ga K "ZERO")) = true) (h_offer : repB K (.tup []) (.ref (kwAt ("Paper", some "__init__") "offer" K)) = true) : Sofar P w K mg base g15 15 30 := by
  refine ⟨s.a.push (by decide) rfl (fun z => nomatch z), s.b.push (by decide) rfl fun m κ hm hf => ?_, s.c.push⟩
  have hml : m < 11 := (List.getElem?_eq_some_iff.mp hm).1
  match m with
    | 0 => cases hm; exact absurd hf (by decide)
    | 1 => cases hm; exact absurd hf (by decide)
    | 2 => cases hm; exact absurd hf (by decide)
    | 3 => cases hm; exact absurd hf (by decide)
    | 4 => cases hm; exact absurd hf (by decide)
    | 5 => cases hm; exact absurd hf (by decide)
    | 6 => cases hm; exact absurd hf (by decide)
    | 7 => cases hm; exact absurd hf (by decide)
    | 8 => cases hm; exact absurd hf (by decide)
    | 9 => cases hm; obtain ⟨mv, kb⟩ := kb9 F; exact ⟨fd, _, mv, _, kb, rp9 h_prices h_sharing h_other h_people h_goods h_targets h_weights h_factor h_offer, ok_f14 F s⟩
    | 10 => cases hm; obtain ⟨mv, kb⟩ := kb10 F; exact ⟨fd, _, mv, _, kb, rp10 h_prices h_sharing h_other h_people h_goods h_targets h_weights h_factor h_offer, ok_f14 F s⟩
    | m + 11 => exact absurd hml (by omega)
theorem ok_f15 {fd : FuncData} (F : FunD K d1.name d1.qual d1.params d1.body d1.scope [] (d1.kws K) (He.fAd K d1.at_) fd) (s : Sofar P w K mg base g15 15 30) : FnOk P w K mg base (L2.CX P w) 32 ((TT K).fn 15) fd ["script", "k"] (spM K (TT K) ⟨true, "_law_cell", 2, [], false⟩ f15) :=
  fn_M (i := ⟨true, "_law_cell", 2, [], false⟩) F sc15 s.c s.a s.b rfl rfl (by decide) ok15
theorem st15 {fd : FuncData} (F : FunD K d1.name d1.qual d1.params d1.body d1.scope [] (d1.kws K) (He.fAd K d1.at_) fd) (s : Sofar P w K mg base g15 15 30) : Sofar P w K mg base g16 16 32 :=
  ⟨s.a.push (by decide) rfl fun _ => ⟨fd, _, F.bindsN fun _ _ _ _ _ _ us hl => match us, hl with | [_, _], _ => rfl, ok_f15 F s⟩, s.b.push (by decide) rfl (nokw rfl), s.c.push⟩
theorem ok_f16 {fd : FuncData} (F : FunD K d2.name d2.qual d2.params d2.body d2.scope [] (d2.kws K) (He.fAd K d2.at_) fd) (s : Sofar P w K mg base g16 16 32) : FnOk P w K mg base (L2.CX P w) 34 ((TT K).fn 16) fd ["cell", "base", "count"] (spM K (TT K) ⟨true, "_law_digits", 3, [], false⟩ f16) :=
  fn_M (i := ⟨true, "_law_digits", 3, [], false⟩) F sc16 s.c s.a s.b rfl rfl (by decide) ok16
theorem st16 {fd : FuncData} (F : FunD K d2.name d2.qual d2.params d2.body d2.scope [] (d2.kws K) (He.fAd K d2.at_) fd) (s : Sofar P w K mg base g16 16 32) : Sofar P w K mg base g17 17 34 :=
  ⟨s.a.push (by decide) rfl fun _ => ⟨fd, _, F.bindsN fun _ _ _ _ _ _ us hl => match us, hl with | [_, _, _], _ => rfl, ok_f16 F s⟩, s.b.push (by decide) rfl (nokw rfl), s.c.push⟩
theorem ok_f17 {fd : FuncData} (F : FunD K d3.name d3.qual d3.params d3.body d3.scope [] (d3.kws K) (He.fAd K d3.at_) fd) (s : Sofar P w K mg base g17 17 34) : FnOk P w K mg base (L2.CX P w) 36 ((TT K).fn 17) fd ["first", "second"] (spM K (TT K) ⟨true, "_law_gcd", 2, [], false⟩ f17) :=
  fn_M (i := ⟨true, "_law_gcd", 2, [], false⟩) F sc17 s.c s.a s.b rfl rfl (by decide) ok17
theorem st17 {fd : FuncData} (F : FunD K d3.name d3.qual d3.params d3.body d3.scope [] (d3.kws K) (He.fAd K d3.at_) fd) (s : Sofar P w K mg base g17 17 34) : Sofar P w K mg base g18 18 36 :=
  ⟨s.a.push (by decide) rfl fun _ => ⟨fd, _, F.bindsN fun _ _ _ _ _ _ us hl => match us, hl with | [_, _], _ => rfl, ok_f17 F s⟩, s.b.push (by decide) rfl (nokw rfl), s.c.push⟩
theorem ok_f18 {fd : FuncData} (F : FunD K d4.name d4.qual d4.params d4.body d4.scope [] (d4.kws K) (He.fAd K d4.at_) fd) (s : Sofar P w K mg base g18 18 36) : FnOk P w K mg base (L2.CX P w) 38 ((TT K).fn 18) fd ["num", "den"] (spM K (TT K) ⟨true, "_law_lowest", 2, [], false⟩ f18) :=
  fn_M (i := ⟨true, "_law_lowest", 2, [], false⟩) F sc18 s.c s.a s.b rfl rfl (by decide) ok18
theorem st18 {fd : FuncData} (F : FunD K d4.name d4.qual d4.params d4.body d4.scope [] (d4.kws K) (He.fAd K d4.at_) fd) (s : Sofar P w K mg base g18 18 36) : Sofar P w K mg base g19 19 38 :=
  ⟨s.a.push (by decide) rfl fun _ => ⟨fd, _, F.bindsN fun _ _ _ _ _ _ us hl => match us, hl with | [_, _], _ => rfl, ok_f18 F s⟩, s.b.push (by decide) rfl (nokw rfl), s.c.push⟩
theorem ok_f19 {fd : FuncData} (F : FunD K d5.name d5.qual d5.params d5.body d5.scope [] (d5.kws K) (He.fAd K d5.at_) fd) (s : Sofar P w K mg base g19 19 38) : FnOk P w K mg base (L2.CX P w) 40 ((TT K).fn 19) fd ["value"] (spM K (TT K) ⟨true, "_law_is_integer", 1, [], false⟩ f19) :=
  fn_M (i := ⟨true, "_law_is_integer", 1, [], false⟩) F sc19 s.c s.a s.b rfl rfl (by decide) ok19
theorem st19 {fd : FuncData} (F : FunD K d5.name d5.qual d5.params d5.body d5.scope [] (d5.kws K) (He.fAd K d5.at_) fd) (s : Sofar P w K mg base g19 19 38) : Sofar P w K mg base g20 20 40 :=
  ⟨s.a.push (by decide) rfl fun _ => ⟨fd, _, F.bindsN fun _ _ _ _ _ _ us hl => match us, hl with | [_], _ => rfl, ok_f19 F s⟩, s.b.push (by decide) rfl (nokw rfl), s.c.push⟩
theorem ok_f20 {fd : FuncData} (F : FunD K d6.name d6.qual d6.params d6.body d6.scope [] (d6.kws K) (He.fAd K d6.at_) fd) (s : Sofar P w K mg base g20 20 40) : FnOk P w K mg base (L2.CX P w) 42 ((TT K).fn 20) fd ["value", "due"] (spM K (TT K) ⟨true, "_law_same", 2, [], false⟩ f20) :=
  fn_M (i := ⟨true, "_law_same", 2, [], false⟩) F sc20 s.c s.a s.b rfl rfl (by decide) ok20
theorem st20 {fd : FuncData} (F : FunD K d6.name d6.qual d6.params d6.body d6.scope [] (d6.kws K) (He.fAd K d6.at_) fd) (s : Sofar P w K mg base g20 20 40) : Sofar P w K mg base g21 21 42 :=
  ⟨s.a.push (by decide) rfl fun _ => ⟨fd, _, F.bindsN fun _ _ _ _ _ _ us hl => match us, hl with | [_, _], _ => rfl, ok_f20 F s⟩, s.b.push (by decide) rfl (nokw rfl), s.c.push⟩
theorem ok_f21 {fd : FuncData} (F : FunD K d7.name d7.qual d7.params d7.body d7.scope [] (d7.kws K) (He.fAd K d7.at_) fd) (s : Sofar P w K mg base g21 21 42) : FnOk P w K mg base (L2.CX P w) 44 ((TT K).fn 21) fd ["digits", "wide"] (spM K (TT K) ⟨true, "_law_value", 2, [], false⟩ f21) :=
  fn_M (i := ⟨true, "_law_value", 2, [], false⟩) F sc21 s.c s.a s.b rfl rfl (by decide) ok21
theorem st21 {fd : FuncData} (F : FunD K d7.name d7.qual d7.params d7.body d7.scope [] (d7.kws K) (He.fAd K d7.at_) fd) (s : Sofar P w K mg base g21 21 42) : Sofar P w K mg base g22 22 44 :=
  ⟨s.a.push (by decide) rfl fun _ => ⟨fd, _, F.bindsN fun _ _ _ _ _ _ us hl => match us, hl with | [_, _], _ => rfl, ok_f21 F s⟩, s.b.push (by decide) rfl (nokw rfl), s.c.push⟩
theorem ok_f22 {fd : FuncData} (F : FunD K d8.name d8.qual d8.params d8.body d8.scope [] (d8.kws K) (He.fAd K d8.at_) fd) (s : Sofar P w K mg base g22 22 44) : FnOk P w K mg base (L2.CX P w) 46 ((TT K).fn 22) fd ["cell", "count", "wide"] (spM K (TT K) ⟨true, "_law_row_of", 3, [], false⟩ f22) :=
  fn_M (i := ⟨true, "_law_row_of", 3, [], false⟩) F sc22 s.c s.a s.b rfl rfl (by decide) ok22
theorem st22 {fd : FuncData} (F : FunD K d8.name d8.qual d8.params d8.body d8.scope [] (d8.kws K) (He.fAd K d8.at_) fd) (s : Sofar P w K mg base g22 22 44) : Sofar P w K mg base g23 23 46 :=
  ⟨s.a.push (by decide) rfl fun _ => ⟨fd, _, F.bindsN fun _ _ _ _ _ _ us hl => match us, hl with | [_, _, _], _ => rfl, ok_f22 F s⟩, s.b.push (by decide) rfl (nokw rfl), s.c.push⟩
theorem ok_f23 {fd : FuncData} (F : FunD K d9.name d9.qual d9.params d9.body d9.scope [] (d9.kws K) (He.fAd K d9.at_) fd) (s : Sofar P w K mg base g23 23 46) : FnOk P w K mg base (L2.CX P w) 48 ((TT K).fn 23) fd ["script", "at", "count", "width", "loose", "wide"] (spM K (TT K) ⟨true, "_law_rows_of", 6, [], false⟩ f23) :=
  fn_M (i := ⟨true, "_law_rows_of", 6, [], false⟩) F sc23 s.c s.a s.b rfl rfl (by decide) ok23
theorem st23 {fd : FuncData} (F : FunD K d9.name d9.qual d9.params d9.body d9.scope [] (d9.kws K) (He.fAd K d9.at_) fd) (s : Sofar P w K mg base g23 23 46) : Sofar P w K mg base g24 24 48 :=
  ⟨s.a.push (by decide) rfl fun _ => ⟨fd, _, F.bindsN fun _ _ _ _ _ _ us hl => match us, hl with | [_, _, _, _, _, _], _ => rfl, ok_f23 F s⟩, s.b.push (by decide) rfl (nokw rfl), s.c.push⟩
theorem ok_f24 {fd : FuncData} (F : FunD K d10.name d10.qual d10.params d10.body d10.scope [] (d10.kws K) (He.fAd K d10.at_) fd) (s : Sofar P w K mg base g24 24 48) : FnOk P w K mg base (L2.CX P w) 50 ((TT K).fn 24) fd ["cell"] (spM K (TT K) ⟨true, "_law_numbers_of", 1, [], false⟩ f24) :=
  fn_M (i := ⟨true, "_law_numbers_of", 1, [], false⟩) F sc24 s.c s.a s.b rfl rfl (by decide) ok24
theorem st24 {fd : FuncData} (F : FunD K d10.name d10.qual d10.params d10.body d10.scope [] (d10.kws K) (He.fAd K d10.at_) fd) (s : Sofar P w K mg base g24 24 48) : Sofar P w K mg base g25 25 50 :=
  ⟨s.a.push (by decide) rfl fun _ => ⟨fd, _, F.bindsN fun _ _ _ _ _ _ us hl => match us, hl with | [_], _ => rfl, ok_f24 F s⟩, s.b.push (by decide) rfl (nokw rfl), s.c.push⟩
theorem ok_f25 {fd : FuncData} (F : FunD K d11.name d11.qual d11.params d11.body d11.scope [] (d11.kws K) (He.fAd K d11.at_) fd) (s : Sofar P w K mg base g25 25 50) : FnOk P w K mg base (L2.CX P w) 52 ((TT K).fn 25) fd ["row", "due"] (spM K (TT K) ⟨true, "_law_kept", 2, [], false⟩ f25) :=
  fn_M (i := ⟨true, "_law_kept", 2, [], false⟩) F sc25 s.c s.a s.b rfl rfl (by decide) ok25
theorem st25 {fd : FuncData} (F : FunD K d11.name d11.qual d11.params d11.body d11.scope [] (d11.kws K) (He.fAd K d11.at_) fd) (s : Sofar P w K mg base g25 25 50) : Sofar P w K mg base g26 26 52 :=
  ⟨s.a.push (by decide) rfl fun _ => ⟨fd, _, F.bindsN fun _ _ _ _ _ _ us hl => match us, hl with | [_, _], _ => rfl, ok_f25 F s⟩, s.b.push (by decide) rfl (nokw rfl), s.c.push⟩
theorem ok_f26 {fd : FuncData} (F : FunD K d12.name d12.qual d12.params d12.body d12.scope [] (d12.kws K) (He.fAd K d12.at_) fd) (s : Sofar P w K mg base g26 26 52) : FnOk P w K mg base (L2.CX P w) 54 ((TT K).fn 26) fd ["rows", "due"] (spM K (TT K) ⟨true, "_law_kept_rows", 2, [], false⟩ f26) :=
  fn_M (i := ⟨true, "_law_kept_rows", 2, [], false⟩) F sc26 s.c s.a s.b rfl rfl (by decide) ok26
theorem st26 {fd : FuncData} (F : FunD K d12.name d12.qual d12.params d12.body d12.scope [] (d12.kws K) (He.fAd K d12.at_) fd) (s : Sofar P w K mg base g26 26 52) : Sofar P w K mg base g27 27 54 :=
  ⟨s.a.push (by decide) rfl fun _ => ⟨fd, _, F.bindsN fun _ _ _ _ _ _ us hl => match us, hl with | [_, _], _ => rfl, ok_f26 F s⟩, s.b.push (by decide) rfl (nokw rfl), s.c.push⟩
theorem ok_f27 {fd : FuncData} (F : FunD K d13.name d13.qual d13.params d13.body d13.scope [] (d13.kws K) (He.fAd K d13.at_) fd) (s : Sofar P w K mg base g27 27 54) : FnOk P w K mg base (L2.CX P w) 56 ((TT K).fn 27) fd ["row", "due"] (spM K (TT K) ⟨true, "_law_kept_numbers", 2, [], false⟩ f27) :=
  fn_M (i := ⟨true, "_law_kept_numbers", 2, [], false⟩) F sc27 s.c s.a s.b rfl rfl (by decide) ok27
theorem st27 {fd : FuncData} (F : FunD K d13.name d13.qual d13.params d13.body d13.scope [] (d13.kws K) (He.fAd K d13.at_) fd) (s : Sofar P w K mg base g27 27 54) : Sofar P w K mg base g28 28 56 :=
  ⟨s.a.push (by decide) rfl fun _ => ⟨fd, _, F.bindsN fun _ _ _ _ _ _ us hl => match us, hl with | [_, _], _ => rfl, ok_f27 F s⟩, s.b.push (by decide) rfl (nokw rfl), s.c.push⟩
theorem ok_f28 {fd : FuncData} (F : FunD K d14.name d14.qual d14.params d14.body d14.scope [] (d14.kws K) (He.fAd K d14.at_) fd) (s : Sofar P w K mg base g28 28 56) : FnOk P w K mg base (L2.CX P w) 58 ((TT K).fn 28) fd ["rows"] (spM K (TT K) ⟨true, "_law_copied", 1, [], false⟩ f28) :=
  fn_M (i := ⟨true, "_law_copied", 1, [], false⟩) F sc28 s.c s.a s.b rfl rfl (by decide) ok28
theorem st28 {fd : FuncData} (F : FunD K d14.name d14.qual d14.params d14.body d14.scope [] (d14.kws K) (He.fAd K d14.at_) fd) (s : Sofar P w K mg base g28 28 56) : Sofar P w K mg base g29 29 58 :=
  ⟨s.a.push (by decide) rfl fun _ => ⟨fd, _, F.bindsN fun _ _ _ _ _ _ us hl => match us, hl with | [_], _ => rfl, ok_f28 F s⟩, s.b.push (by decide) rfl (nokw rfl), s.c.push⟩
theorem ok_f29 {fd : FuncData} (F : FunD K d15.name d15.qual d15.params d15.body d15.scope [] (d15.kws K) (He.fAd K d15.at_) fd) (s : Sofar P w K mg base g29 29 58) : FnOk P w K mg base (L2.CX P w) 60 ((TT K).fn 29) fd ["rows"] (spM K (TT K) ⟨true, "_law_frozen", 1, [], false⟩ f29) :=
  fn_M (i := ⟨true, "_law_frozen", 1, [], false⟩) F sc29 s.c s.a s.b rfl rfl (by decide) ok29
theorem st29 {fd : FuncData} (F : FunD K d15.name d15.qual d15.params d15.body d15.scope [] (d15.kws K) (He.fAd K d15.at_) fd) (s : Sofar P w K mg base g29 29 58) : Sofar P w K mg base g30 30 60 :=
  ⟨s.a.push (by decide) rfl fun _ => ⟨fd, _, F.bindsN fun _ _ _ _ _ _ us hl => match us, hl with | [_], _ => rfl, ok_f29 F s⟩, s.b.push (by decide) rfl (nokw rfl), s.c.push⟩
theorem ok_f30 {fd : FuncData} (F : FunD K d16.name d16.qual d16.params d16.body d16.scope [] (d16.kws K) (He.fAd K d16.at_) fd) (s : Sofar P w K mg base g30 30 60) : FnOk P w K mg base (L2.CX P w) 62 ((TT K).fn 30) fd ["rows"] (spM K (TT K) ⟨true, "_law_spoil", 1, [0], false⟩ f30) :=
  fn_M (i := ⟨true, "_law_spoil", 1, [0], false⟩) F sc30 s.c s.a s.b rfl rfl (by decide) ok30
theorem st30 {fd : FuncData} (F : FunD K d16.name d16.qual d16.params d16.body d16.scope [] (d16.kws K) (He.fAd K d16.at_) fd) (s : Sofar P w K mg base g30 30 60) : Sofar P w K mg base g31 31 62 :=
  ⟨s.a.push (by decide) rfl fun _ => ⟨fd, _, F.bindsN fun _ _ _ _ _ _ us hl => match us, hl with | [_], _ => rfl, ok_f30 F s⟩, s.b.push (by decide) rfl (nokw rfl), s.c.push⟩
theorem ok_f31 {fd : FuncData} (F : FunD K d17.name d17.qual d17.params d17.body d17.scope [] (d17.kws K) (He.fAd K d17.at_) fd) (s : Sofar P w K mg base g31 31 62) : FnOk P w K mg base (L2.CX P w) 64 ((TT K).fn 31) fd ["made", "prices", "sharing", "totals"] (spM K (TT K) ⟨true, "_law_clearing_right", 4, [], false⟩ f31) :=
  fn_M (i := ⟨true, "_law_clearing_right", 4, [], false⟩) F sc31 s.c s.a s.b rfl rfl (by decide) ok31
theorem st31 {fd : FuncData} (F : FunD K d17.name d17.qual d17.params d17.body d17.scope [] (d17.kws K) (He.fAd K d17.at_) fd) (s : Sofar P w K mg base g31 31 62) : Sofar P w K mg base g32 32 64 :=
  ⟨s.a.push (by decide) rfl fun _ => ⟨fd, _, F.bindsN fun _ _ _ _ _ _ us hl => match us, hl with | [_, _, _, _], _ => rfl, ok_f31 F s⟩, s.b.push (by decide) rfl (nokw rfl), s.c.push⟩
theorem ok_f32 {fd : FuncData} (F : FunD K d18.name d18.qual d18.params d18.body d18.scope [] (d18.kws K) (He.fAd K d18.at_) fd) (s : Sofar P w K mg base g32 32 64) : FnOk P w K mg base (L2.CX P w) 66 ((TT K).fn 32) fd ["prices", "sharing", "totals"] (spM K (TT K) ⟨true, "_law_clearing", 3, [], false⟩ f32) :=
  fn_M (i := ⟨true, "_law_clearing", 3, [], false⟩) F sc32 s.c s.a s.b rfl rfl (by decide) ok32
theorem st32 {fd : FuncData} (F : FunD K d18.name d18.qual d18.params d18.body d18.scope [] (d18.kws K) (He.fAd K d18.at_) fd) (s : Sofar P w K mg base g32 32 64) : Sofar P w K mg base g33 33 66 :=
  ⟨s.a.push (by decide) rfl fun _ => ⟨fd, _, F.bindsN fun _ _ _ _ _ _ us hl => match us, hl with | [_, _, _], _ => rfl, ok_f32 F s⟩, s.b.push (by decide) rfl (nokw rfl), s.c.push⟩
theorem ok_f33 {fd : FuncData} (F : FunD K d19.name d19.qual d19.params d19.body d19.scope [] (d19.kws K) (He.fAd K d19.at_) fd) (s : Sofar P w K mg base g33 33 66) : FnOk P w K mg base (L2.CX P w) 68 ((TT K).fn 33) fd ["value", "amounts", "lefts", "rights"] (spM K (TT K) ⟨true, "_law_flow", 4, [], false⟩ f33) :=
  fn_M (i := ⟨true, "_law_flow", 4, [], false⟩) F sc33 s.c s.a s.b rfl rfl (by decide) ok33
theorem st33 {fd : FuncData} (F : FunD K d19.name d19.qual d19.params d19.body d19.scope [] (d19.kws K) (He.fAd K d19.at_) fd) (s : Sofar P w K mg base g33 33 66) : Sofar P w K mg base g34 34 68 :=
  ⟨s.a.push (by decide) rfl fun _ => ⟨fd, _, F.bindsN fun _ _ _ _ _ _ us hl => match us, hl with | [_, _, _, _], _ => rfl, ok_f33 F s⟩, s.b.push (by decide) rfl (nokw rfl), s.c.push⟩
theorem ok_f34 {fd : FuncData} (F : FunD K d20.name d20.qual d20.params d20.body d20.scope [] (d20.kws K) (He.fAd K d20.at_) fd) (s : Sofar P w K mg base g34 34 68) : FnOk P w K mg base (L2.CX P w) 70 ((TT K).fn 34) fd ["value", "weights", "offer"] (spM K (TT K) ⟨true, "_law_factor", 3, [], false⟩ f34) :=
  fn_M (i := ⟨true, "_law_factor", 3, [], false⟩) F sc34 s.c s.a s.b rfl rfl (by decide) ok34
theorem st34 {fd : FuncData} (F : FunD K d20.name d20.qual d20.params d20.body d20.scope [] (d20.kws K) (He.fAd K d20.at_) fd) (s : Sofar P w K mg base g34 34 68) : Sofar P w K mg base g35 35 70 :=
  ⟨s.a.push (by decide) rfl fun _ => ⟨fd, _, F.bindsN fun _ _ _ _ _ _ us hl => match us, hl with | [_, _, _], _ => rfl, ok_f34 F s⟩, s.b.push (by decide) rfl (nokw rfl), s.c.push⟩
theorem ok_f35 {fd : FuncData} (F : FunD K d21.name d21.qual d21.params d21.body d21.scope [] (d21.kws K) (He.fAd K d21.at_) fd) (s : Sofar P w K mg base g35 35 70) : FnOk P w K mg base (L2.CX P w) 72 ((TT K).fn 35) fd ["kind", "which", "value"] (spM K (TT K) ⟨true, "_law_paper", 3, [2], false⟩ f35) :=
  fn_M (i := ⟨true, "_law_paper", 3, [2], false⟩) F sc35 s.c s.a s.b rfl rfl (by decide) ok35
theorem st35 {fd : FuncData} (F : FunD K d21.name d21.qual d21.params d21.body d21.scope [] (d21.kws K) (He.fAd K d21.at_) fd) (s : Sofar P w K mg base g35 35 70) : Sofar P w K mg base g36 36 72 :=
  ⟨s.a.push (by decide) rfl fun _ => ⟨fd, _, F.bindsN fun _ _ _ _ _ _ us hl => match us, hl with | [_, _, _], _ => rfl, ok_f35 F s⟩, s.b.push (by decide) rfl (nokw rfl), s.c.push⟩
theorem ok_f36 {fd : FuncData} (F : FunD K d22.name d22.qual d22.params d22.body d22.scope [] (d22.kws K) (He.fAd K d22.at_) fd) (s : Sofar P w K mg base g36 36 72) : FnOk P w K mg base (L2.CX P w) 74 ((TT K).fn 36) fd ["paper", "kind", "due"] (spM K (TT K) ⟨true, "_law_fields", 3, [], false⟩ f36) :=
  fn_M (i := ⟨true, "_law_fields", 3, [], false⟩) F sc36 s.c s.a s.b rfl rfl (by decide) ok36
theorem st36 {fd : FuncData} (F : FunD K d22.name d22.qual d22.params d22.body d22.scope [] (d22.kws K) (He.fAd K d22.at_) fd) (s : Sofar P w K mg base g36 36 72) : Sofar P w K mg base g37 37 74 :=
  ⟨s.a.push (by decide) rfl fun _ => ⟨fd, _, F.bindsN fun _ _ _ _ _ _ us hl => match us, hl with | [_, _, _], _ => rfl, ok_f36 F s⟩, s.b.push (by decide) rfl (nokw rfl), s.c.push⟩
theorem ok_f37 {fd : FuncData} (F : FunD K d23.name d23.qual d23.params d23.body d23.scope [] (d23.kws K) (He.fAd K d23.at_) fd) (s : Sofar P w K mg base g37 37 74) : FnOk P w K mg base (L2.CX P w) 76 ((TT K).fn 37) fd ["kind", "fields", "which"] (spM K (TT K) ⟨true, "_law_one_field", 3, [], false⟩ f37) :=
  fn_M (i := ⟨true, "_law_one_field", 3, [], false⟩) F sc37 s.c s.a s.b rfl rfl (by decide) ok37
theorem st37 {fd : FuncData} (F : FunD K d23.name d23.qual d23.params d23.body d23.scope [] (d23.kws K) (He.fAd K d23.at_) fd) (s : Sofar P w K mg base g37 37 74) : Sofar P w K mg base g38 38 76 :=
  ⟨s.a.push (by decide) rfl fun _ => ⟨fd, _, F.bindsN fun _ _ _ _ _ _ us hl => match us, hl with | [_, _, _], _ => rfl, ok_f37 F s⟩, s.b.push (by decide) rfl (nokw rfl), s.c.push⟩
theorem ok_f38 {fd : FuncData} (F : FunD K d24.name d24.qual d24.params d24.body d24.scope [] (d24.kws K) (He.fAd K d24.at_) fd) (s : Sofar P w K mg base g38 38 76) : FnOk P w K mg base (L2.CX P w) 78 ((TT K).fn 38) fd ["kind", "fields"] (spM K (TT K) ⟨true, "_law_all_fields", 2, [], false⟩ f38) :=
  fn_M (i := ⟨true, "_law_all_fields", 2, [], false⟩) F sc38 s.c s.a s.b rfl rfl (by decide) ok38
theorem st38 {fd : FuncData} (F : FunD K d24.name d24.qual d24.params d24.body d24.scope [] (d24.kws K) (He.fAd K d24.at_) fd) (s : Sofar P w K mg base g38 38 76) : Sofar P w K mg base g39 39 78 :=
  ⟨s.a.push (by decide) rfl fun _ => ⟨fd, _, F.bindsN fun _ _ _ _ _ _ us hl => match us, hl with | [_, _], _ => rfl, ok_f38 F s⟩, s.b.push (by decide) rfl (nokw rfl), s.c.push⟩
theorem ok_f39 {fd : FuncData} (F : FunD K d25.name d25.qual d25.params d25.body d25.scope [] (d25.kws K) (He.fAd K d25.at_) fd) (s : Sofar P w K mg base g39 39 78) : FnOk P w K mg base (L2.CX P w) 80 ((TT K).fn 39) fd ["script"] (spM K (TT K) ⟨true, "law", 1, [], false⟩ f39) :=
  fn_M (i := ⟨true, "law", 1, [], false⟩) F sc39 s.c s.a s.b rfl rfl (by decide) ok39
theorem st39 {fd : FuncData} (F : FunD K d25.name d25.qual d25.params d25.body d25.scope [] (d25.kws K) (He.fAd K d25.at_) fd) (s : Sofar P w K mg base g39 39 78) : Sofar P w K mg base g40 40 80 :=
  ⟨s.a.push (by decide) rfl fun _ => ⟨fd, _, F.bindsN fun _ _ _ _ _ _ us hl => match us, hl with | [_], _ => rfl, ok_f39 F s⟩, s.b.push (by decide) rfl (nokw rfl), s.c.push⟩
theorem facts (X : K.In h) (Gn : h.Ns mainGlobals mg) (c : He.SaysD [] fn K) (e : ex K = true) : ∃ fd : FuncData, (∀ (s : Shared) (v : Value), BindsTo s fd ⟨[v], []⟩ [("script", v)]) ∧ noL K = true ∧ ∀ base : Heap, K.In base → base.Ns mainGlobals mg → FnOk P w K mg base (L2.CX P w) 80 ((TT K).fn 39) fd ["script"] (spM K (TT K) ⟨true, "law", 1, [], false⟩ f39) := by
  obtain ⟨e1, e2, h_prices, h_sharing, h_other, h_people, h_goods, h_targets, h_weights, h_offer, h_factor⟩ := ex_all e
  obtain ⟨fd0, F0⟩ := c.def_ 0 (d := d0) rfl
  obtain ⟨fd1, F1⟩ := c.def_ 1 (d := d1) rfl
  obtain ⟨fd2, F2⟩ := c.def_ 2 (d := d2) rfl
  obtain ⟨fd3, F3⟩ := c.def_ 3 (d := d3) rfl
  obtain ⟨fd4, F4⟩ := c.def_ 4 (d := d4) rfl
  obtain ⟨fd5, F5⟩ := c.def_ 5 (d := d5) rfl
  obtain ⟨fd6, F6⟩ := c.def_ 6 (d := d6) rfl
  obtain ⟨fd7, F7⟩ := c.def_ 7 (d := d7) rfl
  obtain ⟨fd8, F8⟩ := c.def_ 8 (d := d8) rfl
  obtain ⟨fd9, F9⟩ := c.def_ 9 (d := d9) rfl
  obtain ⟨fd10, F10⟩ := c.def_ 10 (d := d10) rfl
  obtain ⟨fd11, F11⟩ := c.def_ 11 (d := d11) rfl
  obtain ⟨fd12, F12⟩ := c.def_ 12 (d := d12) rfl
  obtain ⟨fd13, F13⟩ := c.def_ 13 (d := d13) rfl
  obtain ⟨fd14, F14⟩ := c.def_ 14 (d := d14) rfl
  obtain ⟨fd15, F15⟩ := c.def_ 15 (d := d15) rfl
  obtain ⟨fd16, F16⟩ := c.def_ 16 (d := d16) rfl
  obtain ⟨fd17, F17⟩ := c.def_ 17 (d := d17) rfl
  obtain ⟨fd18, F18⟩ := c.def_ 18 (d := d18) rfl
  obtain ⟨fd19, F19⟩ := c.def_ 19 (d := d19) rfl
  obtain ⟨fd20, F20⟩ := c.def_ 20 (d := d20) rfl
  obtain ⟨fd21, F21⟩ := c.def_ 21 (d := d21) rfl
  obtain ⟨fd22, F22⟩ := c.def_ 22 (d := d22) rfl
  obtain ⟨fd23, F23⟩ := c.def_ 23 (d := d23) rfl
  obtain ⟨fd24, F24⟩ := c.def_ 24 (d := d24) rfl
  obtain ⟨fd25, F25⟩ := c.def_ 25 (d := d25) rfl
  obtain ⟨fd26, F26⟩ := c.def_ 26 (d := d26) rfl
  obtain ⟨fd27, F27⟩ := c.def_ 27 (d := d27) rfl
  obtain ⟨fd28, F28⟩ := c.def_ 28 (d := d28) rfl
  obtain ⟨fd29, F29⟩ := c.def_ 29 (d := d29) rfl
  refine ⟨fd25, fun s v => FunD.bindsA (ps := ["script"]) F25 (fun _ _ _ _ _ _ us hl => match us, hl with | [_], _ => rfl) s [v] rfl, e2, fun base _ _ => ?_⟩
  have s0 : Sofar P w K mg base g0 0 0 := ⟨fns_zero, fks_zero, wd_of X Gn e1⟩
  have s1 := st0 F0 s0
  have s2 := st1 F29 s1
  have s3 := st2 F27 s2
  have s4 := st3 F28 s3
  have s5 := st4 F29 s4
  have s6 := st5 F26 s5 h_prices h_sharing h_other h_people h_goods h_targets h_weights h_factor h_offer
  have s7 := st6 F26 s6 h_prices h_sharing h_other h_people h_goods h_targets h_weights h_factor h_offer
  have s8 := st7 F26 s7 h_prices h_sharing h_other h_people h_goods h_targets h_weights h_factor h_offer
  have s9 := st8 F26 s8 h_prices h_sharing h_other h_people h_goods h_targets h_weights h_factor h_offer
  have s10 := st9 F26 s9 h_prices h_sharing h_other h_people h_goods h_targets h_weights h_factor h_offer
  have s11 := st10 F26 s10 h_prices h_sharing h_other h_people h_goods h_targets h_weights h_factor h_offer
  have s12 := st11 F26 s11 h_prices h_sharing h_other h_people h_goods h_targets h_weights h_factor h_offer
  have s13 := st12 F26 s12 h_prices h_sharing h_other h_people h_goods h_targets h_weights h_factor h_offer
  have s14 := st13 F26 s13 h_prices h_sharing h_other h_people h_goods h_targets h_weights h_factor h_offer
  have s15 := st14 F26 s14 h_prices h_sharing h_other h_people h_goods h_targets h_weights h_factor h_offer
  have s16 := st15 F1 s15
  have s17 := st16 F2 s16
  have s18 := st17 F3 s17
  have s19 := st18 F4 s18
  have s20 := st19 F5 s19
  have s21 := st20 F6 s20
  have s22 := st21 F7 s21
  have s23 := st22 F8 s22
  have s24 := st23 F9 s23
  have s25 := st24 F10 s24
  have s26 := st25 F11 s25
  have s27 := st26 F12 s26
  have s28 := st27 F13 s27
  have s29 := st28 F14 s28
  have s30 := st29 F15 s29
  have s31 := st30 F16 s30
  have s32 := st31 F17 s31
  have s33 := st32 F18 s32
  have s34 := st33 F19 s33
  have s35 := st34 F20 s34
  have s36 := st35 F21 s35
  have s37 := st36 F22 s36
  have s38 := st37 F23 s37
  have s39 := st38 F24 s38
  exact ok_f39 F25 s39
end
end L93

set_option Elab.async false
set_option linter.all false
set_option maxRecDepth 100000
set_option maxHeartbeats 0
namespace Ml
open PySem PySem.Spec PyProof.Rows L2
/-- a promise that lets nothing out -/
theorem fnok_calm {P : Program} {w : World} {K : PySem.W.Frag} {mg : Str → Option Value} {base : Heap} {k : Nat} {f : Addr} {fd : FuncData} {ps : List Str} {sp : Sp} (F : FnOk P w K mg base (L2.CX P w) k f fd ps sp) : FnOk P w K mg base CX0 k f fd ps (fun vs H Q _ => sp vs H Q fun _ _ _ => False) :=
  ⟨fun vs H Q _ h => F.len _ _ _ _ h, fun A outer s H args us vs Q E hr he hb hv hs => codeAny_mono (F.run A outer s H args us vs Q (fun _ _ _ => False) hr he hb hv hs) fun r s' q => by
    cases r with
    | error e =>
      obtain ⟨_, _, _, _, _, _, _, _, _, _, _, _, z⟩ := q
      exact z.elim
    | ok fl => cases fl <;> exact q⟩
end Ml
open PySem PySem.W PySem.Calls PyProof.Rows in
theorem k93_of (hp : ∀ ns : List Int, ns.length ≤ 63 → L93.f39 [.fz (.lst (ns.map Ml.D.int))] = .ok (.fz (.bl true), [])) : PySem.Challenge.rw_marketscleared_k93_objects_keep_copies.Holds := by
  w_on; o_law
  refine HandSHeadRun.head_any (r := OpenLaw.row PySem.Challenge.rw_marketscleared_k93_objects_keep_copies) (q := view (OpenLaw.row PySem.Challenge.rw_marketscleared_k93_objects_keep_copies).prog [36]) (H := L93.hk) (ob := L93.ob) (M := 20000) (loose := L93.loose) (d := HandSHeadRun.topDef (OpenLaw.row PySem.Challenge.rw_marketscleared_k93_objects_keep_copies).prog 36) (kwd := []) L93.ob_eq
    (by kernel_rfl) (fun s => by kernel_rfl) L93.run (by kernel_rfl) (by kernel_rfl) (by kernel_rfl) (by rfl) (by first | assumption | decide +kernel) (by decide +kernel) ⟨rfl, rfl, rfl, rfl, rfl, by decide +kernel⟩ ?hw ?hc
  case hw => w_witness2
  case hc =>
    refine L2.walk_ofE (l := PySem.Challenge.rw_marketscleared_k93_objects_keep_copies) (n := 63) (k := 80) (x := "script") (CX := L2.CX0) rfl (by decide) (by kernel_rfl) ⟨rfl, by decide, by decide⟩ ?F (fun _ _ _ _ z => z)
    intro w mg fa h Y G hmg0
    obtain ⟨K, KX, c, e⟩ := Y
    have hmg : mg ("law" : PySem.Str) = some (.ref fa) := by
      have e : (HandSHeadRun.topDef (OpenLaw.row PySem.Challenge.rw_marketscleared_k93_objects_keep_copies).prog 36).name = ("law" : PySem.Str) := by kernel_rfl
      rw [← e]
      exact hmg0
    obtain ⟨fd, hb, hn, hF⟩ := L93.facts (P := PySem.Challenge.rw_marketscleared_k93_objects_keep_copies.prog) (w := w) KX G c e
    have hw := Ml.wd_of (xn := fun _ => []) (fs := fun _ _ => .bad) KX G (L93.ex_all e).1
    have e2 : fa = (L93.TT K).fn 39 := by
      have q := (hw.gfn 39 ⟨true, "law", 1, [], false⟩ rfl rfl).1
      rw [hmg] at q
      cases q
      rfl
    subst e2
    exact ⟨K, fd, fun vs H Q _ => Ml.spM K (L93.TT K) ⟨true, "law", 1, [], false⟩ L93.f39 vs H Q fun _ _ _ => False, KX, hb, fun H a ns hl _ hS => Ml.law_M (T := L93.TT K) hn hS rfl rfl (hp ns hl), fun base h1 h2 => Ml.fnok_calm (hF base h1 h2)⟩

set_option Elab.async false
set_option linter.all false
set_option maxRecDepth 100000
set_option maxHeartbeats 1000000
/-! PL: the meaning of M1 and M10, step by step, for the plain laws. -/
namespace Ml
open PySem
/-- a loop's body -/
def bodyF (G : Gl) (t : Tg) (b : List S) (d : D) (st : Ml.St) : Out := opt (bindT t (.fz d) st) fun st => Ml.execs G b st
theorem x_for {G : Gl} {t : Tg} {s : Nat} {src : List E} {b : List S} {st : Ml.St} {rs : List Rv} {ds : List D} {os : List O} (h1 : evs G src st = .ok rs) (h2 : toDs rs = some ds) (h3 : walkO s (ds.map .fz) = some os) : Ml.exec G (.for_ t s src b) st = forL (bodyF G t b) (O.ds os) st := by
  show (evs G src st).out _ = _
  rw [h1]
  show opt (toDs rs) _ = _
  rw [h2]
  show opt (walkO s (ds.map .fz)) _ = _
  rw [h3]
  rfl
section
variable {G : Gl} {st : Ml.St} {i j : Int} {a b : E} {op : O2} {x y : Rv} {o p : O}
theorem x_v {n : Nat} (h : st[n]? = some (some o)) : ev G (.v n) st = .ok (.vw o) := by
  show (match st[n]? with | some (some o) => Rs.ok (Rv.vw o) | _ => .bad) = _
  rw [h]
theorem x_k {d : D} : ev G (.k d) st = .ok (.my (.fz d)) := rfl
theorem x_o2 (h1 : ev G a st = .ok x) (h2 : ev G b st = .ok y) (h3 : op2 op x.o y.o = some o) : ev G (.o2 op a b) st = .ok (.my o) := by
  show (ev G a st).then _ = _
  rw [h1]
  show (ev G b st).then _ = _
  rw [h2]
  show lift (op2 op x.o y.o) = _
  rw [h3]
  rfl
theorem x_add : op2 .add (.fz (.int i)) (.fz (.int j)) = some (.fz (.int (i + j))) := rfl
theorem x_sub : op2 .sub (.fz (.int i)) (.fz (.int j)) = some (.fz (.int (i - j))) := rfl
theorem x_mul (h : mulOk i j = true) : op2 .mul (.fz (.int i)) (.fz (.int j)) = some (.fz (.int (i * j))) := by
  show (if mulOk i j then _ else _) = _
  rw [if_pos h]
theorem x_mod (h : j ≠ 0) : op2 .mod (.fz (.int i)) (.fz (.int j)) = some (.fz (.int (i.fmod j))) := by
  show (if j ≠ 0 then _ else _) = _
  rw [if_pos h]
theorem x_fdiv (h : j ≠ 0) (h2 : j.natAbs.log2 < 9000) : op2 .fdiv (.fz (.int i)) (.fz (.int j)) = some (.fz (.int (i.fdiv j))) := by
  show (if j ≠ 0 ∧ j.natAbs.log2 < 9000 then _ else _) = _
  rw [if_pos ⟨h, h2⟩]
theorem x_int (h : ev G a st = .ok x) (h2 : int? x.o = some i) : ev G (.bi .int_ [a]) st = .ok (.my (.fz (.int i))) := by
  show ((ev G a st).then fun r => (Rs.ok []).then fun rs => Rs.ok (r :: rs)).then _ = _
  rw [h]
  have e : bi .int_ [x.o] = some (.fz (.int i)) := by
    show (match int? x.o with
      | some i => some (O.fz (D.int i))
      | none => _) = _
    rw [h2]
  show lift (bi .int_ [x.o]) = _
  rw [e]
  rfl
/-! ### statements, tests -/
theorem x_cons {s : S} {ss : List S} {st' : Ml.St} (h : Ml.exec G s st = .nx st') : Ml.execs G (s :: ss) st = Ml.execs G ss st' := by
  show (Ml.exec G s st).then _ = _
  rw [h]
  rfl
theorem x_one {s : S} {r : Out} (h : Ml.exec G s st = r) : Ml.execs G [s] st = r := by
  show (Ml.exec G s st).then _ = _
  rw [h]
  cases r <;> rfl
theorem x_stop {s : S} {ss : List S} {r : Out} (h : Ml.exec G s st = r) (hr : ∀ st', r ≠ .nx st') : Ml.execs G (s :: ss) st = r := by
  show (Ml.exec G s st).then _ = _
  rw [h]
  cases r <;> first | rfl | exact absurd rfl (hr _)
theorem x_set {n : Nat} {e : E} {fr : Bool} (h : ev G e st = .ok x) (h2 : (if fr then x.toD.map .fz else x.toO) = some o) : Ml.exec G (.asg fr (.nm n) e) st = .nx (st.set n (some o)) := by
  show (ev G e st).out _ = _
  rw [h]
  show opt (if fr then x.toD.map .fz else x.toO) _ = _
  rw [h2]
  rfl
theorem x_if {c : Te} {u v : List S} {t : Bool} (h : et G c st = .ok t) : Ml.exec G (.ite c u v) st = if t then Ml.execs G u st else Ml.execs G v st := by
  show (et G c st).out _ = _
  rw [h]
  rfl
theorem x_t2 {q : Bool} (h1 : ev G a st = .ok x) (h2 : ev G b st = .ok y) (h3 : op2 op x.o y.o = some (.fz (.bl q))) : et G (.o2 op a b) st = .ok q := by
  show (ev G a st).then _ = _
  rw [h1]
  show (ev G b st).then _ = _
  rw [h2]
  show (match op2 op x.o y.o with | some (.fz (.bl b)) => Rs.ok b | _ => .bad) = _
  rw [h3]
theorem x_ge : op2 .ge (.fz (.int i)) (.fz (.int j)) = some (.fz (.bl (decide (j ≤ i)))) := rfl
theorem x_lt : op2 .lt (.fz (.int i)) (.fz (.int j)) = some (.fz (.bl (decide (i < j)))) := rfl
theorem x_app {n : Nat} {e : E} {os : List O} (h0 : st[n]? = some (some (.lst os))) (h : ev G e st = .ok x) (h2 : x.toO = some o) (h3 : os.length < sizeLine) : Ml.exec G (.mut n [] .app [e]) st = .nx (st.set n (some (.lst (os ++ [o])))) := by
  show (match st[n]? with
    | some (some root) => (evs G [] st).calm.out fun rs => opt (pInts rs) fun ks => match getP ks root with
      | some (.lst os) => (evs G [e] st).out fun ra => opt (toOs ra) fun as => opt (muO .app os as) fun q => .nx (st.set n (some (setP ks root (.lst q.1))))
      | _ => .bad
    | _ => .bad : Out) = _
  rw [h0]
  show ((ev G e st).then fun r => (Rs.ok []).then fun rs => Rs.ok (r :: rs)).out _ = _
  rw [h]
  show opt (toOs [x]) _ = _
  have e1 : toOs [x] = some [o] := by
    unfold toOs
    rw [h2]
    rfl
  rw [e1]
  show opt (if os.length < sizeLine then _ else _) _ = _
  rw [if_pos h3]
  rfl
end
end Ml

set_option Elab.async false
set_option linter.all false
set_option maxRecDepth 100000
set_option maxHeartbeats 1000000
namespace L93
open PySem Ml
theorem forL_inv {f : D → Ml.St → Out} {P : Nat → Ml.St → Prop} : ∀ {ds : List D} {n : Nat} {st : Ml.St}, P n st → (∀ i d st, ds[i]? = some d → P (n + i) st → ∃ st', (f d st = .nx st' ∨ f d st = .cnt st') ∧ P (n + i + 1) st') → ∃ st', forL f ds st = .nx st' ∧ P (n + ds.length) st'
  | [], n, st, h0, hs => ⟨st, rfl, h0⟩
  | d :: ds, n, st, h0, hs => by
    obtain ⟨st1, e, h1⟩ := hs 0 d st rfl h0
    obtain ⟨st2, e2, h2⟩ := forL_inv (n := n + 1) (ds := ds) h1 fun i d' st' hd hp => by
      have := hs (i + 1) d' st' (by simpa using hd) (by rw [show n + (i + 1) = n + 1 + i by omega]; exact hp)
      rw [show n + (i + 1) + 1 = n + 1 + i + 1 by omega] at this
      exact this
    refine ⟨st2, ?_, by rw [List.length_cons, show n + (ds.length + 1) = n + 1 + ds.length by omega]; exact h2⟩
    rcases e with e | e <;> simp only [forL, e, e2]
theorem ds_range (i j : Int) : O.ds (rangeOf i j) = (List.range (j - i).toNat).map fun k : Nat => D.int (i + k) := by
  rw [O.ds_map]
  unfold rangeOf
  rw [List.map_map]
  rfl
theorem mulOk_r {i j : Int} (h : -(2 ^ 64) < j ∧ j < 2 ^ 64) : mulOk i j = true := by
  unfold mulOk
  rw [decide_eq_true h]
  simp
theorem mulOk_l {i j : Int} (h : -(2 ^ 64) < i ∧ i < 2 ^ 64) : mulOk i j = true := by
  unfold mulOk
  rw [decide_eq_true h]
  simp
theorem log2_small {j : Int} (h : j.natAbs < 2 ^ 64) : j.natAbs.log2 < 9000 := by
  by_cases z : j.natAbs = 0
  · rw [z]; decide
  · have := (Nat.log2_lt z).mpr h
    omega
/-- intsO in [0, b) -/
def Below (b : Int) (xs : List Int) : Prop := ∀ x ∈ xs, 0 ≤ x ∧ x < b
abbrev intsO (xs : List Int) : List O := xs.map fun x => .fz (.int x)
theorem run_ret {G : Gl} {n : Nat} {b : List S} {os : List O} {o : O} {st : Ml.St} (h : Ml.execs G b (os.map some ++ List.replicate (n - os.length) none) = .ret o st) : runF G n [] b os = .ok (o, []) := by
  unfold runF
  rw [h]
  rfl
/-- one turn of the digits' loop -/
theorem digits_turn {cell base count rest t : Int} {xs : List Int} {tt : Option O} (hb : 0 < base) (hb2 : base < 2 ^ 62) (hx : xs.length < sizeLine) (ht : 0 ≤ t ∧ t < 2 ^ 62) (hxs : Below base xs) :
    ∃ rest' xs', bodyF g16 (.nm 5) b16_0 (.int t)
      [some (.fz (.int cell)), some (.fz (.int base)), some (.fz (.int count)), some (.lst (intsO xs)), some (.fz (.int rest)), tt] = .nx [some (.fz (.int cell)), some (.fz (.int base)), some (.fz (.int count)), some (.lst (intsO xs')), some (.fz (.int rest')), some (.fz (.int t))] ∧
      xs'.length = xs.length + 1 ∧ Below base xs' := by
  have hxl : (intsO xs).length < sizeLine := by rw [List.length_map]; exact hx
  have bel : ∀ z : Int, Below base (xs ++ [z.fmod base]) := fun z y hy => by
    rcases List.mem_append.mp hy with h | h
    · exact hxs y h
    · rw [List.mem_singleton.mp h]
      exact ⟨Int.fmod_nonneg_of_pos z hb, Int.fmod_lt_of_pos z hb⟩
  have hpow : ev g16 (.o2 .pow (.k (.int 10)) (.k (.int 18))) [some (.fz (.int cell)), some (.fz (.int base)), some (.fz (.int count)), some (.lst (intsO xs)), some (.fz (.int rest)), some (.fz (.int t))] = .ok (.my (.fz (.int (10 ^ 18)))) := rfl
  have ht2 := x_t2 (op := .ge) (G := g16) (a := .v 0) (x_v (n := 0) rfl) hpow x_ge
  by_cases hc : (10 : Int) ^ 18 ≤ cell
  · refine ⟨rest.fdiv base, xs ++ [rest.fmod base], ?_, by simp, bel rest⟩
    show Ml.execs g16 [_] [some (.fz (.int cell)), some (.fz (.int base)), some (.fz (.int count)), some (.lst (intsO xs)), some (.fz (.int rest)), some (.fz (.int t))] = _
    refine x_one ?_
    rw [x_if ht2, if_pos (decide_eq_true hc)]
    have e1 := x_app (G := g16) (n := 3) (st := [some (.fz (.int cell)), some (.fz (.int base)), some (.fz (.int count)), some (.lst (intsO xs)), some (.fz (.int rest)), some (.fz (.int t))]) (os := intsO xs) rfl
      (x_o2 (op := .mod) (a := .bi .int_ [.v 4]) (b := .v 1) (x_int (x_v (n := 4) rfl) rfl) (x_v (n := 1) rfl) (x_mod (by omega))) rfl hxl
    rw [x_cons e1]
    refine x_one ?_
    rw [x_set (x_o2 (op := .fdiv) (x_v (n := 4) rfl) (x_v (n := 1) rfl) (x_fdiv (by omega) (log2_small (by omega)))) rfl]
    simp [intsO, O.d]
  · have hm : ∀ z : Int, -(2 ^ 64) < z ∧ z < 2 ^ 64 → ∀ u, mulOk u z = true := fun z h u => mulOk_r h
    have hk : ∀ z : Int, -(2 ^ 64) < z ∧ z < 2 ^ 64 → ∀ u, mulOk z u = true := fun z h u => mulOk_l h
    refine ⟨(((rest * 48271 + 69621 * t + 1009).fmod 2147483647) * 16807 + 40014 * t + 7).fmod 2147483629, xs ++ [(((((rest * 48271 + 69621 * t + 1009).fmod 2147483647) * 16807 + 40014 * t + 7).fmod 2147483629).fdiv 11).fmod base], ?_, by simp, bel _⟩
    show Ml.execs g16 [_] [some (.fz (.int cell)), some (.fz (.int base)), some (.fz (.int count)), some (.lst (intsO xs)), some (.fz (.int rest)), some (.fz (.int t))] = _
    refine x_one ?_
    rw [x_if ht2, if_neg (by simpa using hc)]
    have e1 : Ml.exec g16 (.asg true (.nm 4) (.o2 .mod (.o2 .add (.o2 .add (.o2 .mul (.bi .int_ [.v 4]) (.k (.int 48271))) (.o2 .mul (.k (.int 69621)) (.v 5))) (.k (.int 1009))) (.k (.int 2147483647)))) [some (.fz (.int cell)), some (.fz (.int base)), some (.fz (.int count)), some (.lst (intsO xs)), some (.fz (.int rest)), some (.fz (.int t))] =
        .nx [some (.fz (.int cell)), some (.fz (.int base)), some (.fz (.int count)), some (.lst (intsO xs)), some (.fz (.int ((rest * 48271 + 69621 * t + 1009).fmod 2147483647))), some (.fz (.int t))] :=
      x_set (x_o2 (x_o2 (x_o2 (x_o2 (x_int (x_v (n := 4) rfl) rfl) x_k (x_mul (hm 48271 (by decide) _))) (x_o2 x_k (x_v (n := 5) rfl) (x_mul (hk 69621 (by decide) _))) x_add) x_k x_add) x_k (x_mod (by decide))) rfl
    rw [x_cons e1]
    generalize (rest * 48271 + 69621 * t + 1009).fmod 2147483647 = r1
    have e2 : Ml.exec g16 (.asg true (.nm 4) (.o2 .mod (.o2 .add (.o2 .add (.o2 .mul (.bi .int_ [.v 4]) (.k (.int 16807))) (.o2 .mul (.k (.int 40014)) (.v 5))) (.k (.int 7))) (.k (.int 2147483629)))) [some (.fz (.int cell)), some (.fz (.int base)), some (.fz (.int count)), some (.lst (intsO xs)), some (.fz (.int r1)), some (.fz (.int t))] =
        .nx [some (.fz (.int cell)), some (.fz (.int base)), some (.fz (.int count)), some (.lst (intsO xs)), some (.fz (.int ((r1 * 16807 + 40014 * t + 7).fmod 2147483629))), some (.fz (.int t))] :=
      x_set (x_o2 (x_o2 (x_o2 (x_o2 (x_int (x_v (n := 4) rfl) rfl) x_k (x_mul (hm 16807 (by decide) _))) (x_o2 x_k (x_v (n := 5) rfl) (x_mul (hk 40014 (by decide) _))) x_add) x_k x_add) x_k (x_mod (by decide))) rfl
    rw [x_cons e2]
    generalize (r1 * 16807 + 40014 * t + 7).fmod 2147483629 = r2
    refine x_one ?_
    rw [x_app (os := intsO xs) rfl (x_o2 (x_int (x_o2 (x_v (n := 4) rfl) x_k (x_fdiv (by decide) (by decide))) rfl) (x_v (n := 1) rfl) (x_mod (by omega))) rfl hxl]
    simp [intsO]
theorem digits_ok (cell base count : Int) (hb : 0 < base) (hb2 : base < 2 ^ 62) (hc : 0 ≤ count) (hc2 : count ≤ 1000000) : ∃ xs : List Int, f16 [.fz (.int cell), .fz (.int base), .fz (.int count)] = .ok (.lst (intsO xs), []) ∧ (xs.length : Int) = count ∧ Below base xs := by
  have hw : walkO 1 (([D.int count]).map O.fz) = some (rangeOf 0 count) := by
    show (if -(2 ^ 62) ≤ count ∧ count < 2 ^ 62 then _ else _) = _
    rw [if_pos (by omega)]
  have e1 : Ml.exec g16 (.asg false (.nm 3) (.lst [])) [some (.fz (.int cell)), some (.fz (.int base)), some (.fz (.int count)), none, none, none] = .nx [some (.fz (.int cell)), some (.fz (.int base)), some (.fz (.int count)), some (.lst []), none, none] := rfl
  have e2 : Ml.exec g16 (.asg true (.nm 4) (.v 0)) [some (.fz (.int cell)), some (.fz (.int base)), some (.fz (.int count)), some (.lst []), none, none] = .nx [some (.fz (.int cell)), some (.fz (.int base)), some (.fz (.int count)), some (.lst []), some (.fz (.int cell)), none] := rfl
  have e3 := x_for (G := g16) (t := .nm 5) (s := 1) (src := [.v 2]) (b := b16_0)
    (st := [some (.fz (.int cell)), some (.fz (.int base)), some (.fz (.int count)), some (.lst []), some (.fz (.int cell)), none]) (rs := [.vw (.fz (.int count))]) (ds := [.int count]) rfl rfl hw
  rw [ds_range, Int.sub_zero] at e3
  obtain ⟨st', e4, h4⟩ := forL_inv (P := fun i st => ∃ xs rest tt, st = [some (.fz (.int cell)), some (.fz (.int base)), some (.fz (.int count)), some (.lst (intsO xs)), some (.fz (.int rest)), tt] ∧ xs.length = i ∧ Below base xs) (n := 0) (ds := (List.range count.toNat).map fun k : Nat => D.int (0 + k))
    (f := bodyF g16 (.nm 5) b16_0)
    (st := [some (.fz (.int cell)), some (.fz (.int base)), some (.fz (.int count)), some (.lst (intsO [])), some (.fz (.int cell)), none]) ⟨[], cell, none, rfl, rfl, fun _ z => nomatch z⟩ fun i d st hd hp => by
      obtain ⟨xs, rest, tt, rfl, hl, hbel⟩ := hp
      rw [List.getElem?_map] at hd
      cases q : (List.range count.toNat)[i]? with
      | none => rw [q] at hd; cases hd
      | some m =>
        rw [q] at hd
        cases hd
        have hm : i < count.toNat := by
          have := (List.getElem?_eq_some_iff.mp q).1
          simpa using this
        have hmi : m = i := by
          have := (List.getElem?_eq_some_iff.mp q).2
          simpa using this.symm
        have hs : sizeLine = 16777216 := by decide
        obtain ⟨rest', xs', e, hl', hb'⟩ := digits_turn (cell := cell) (count := count) (rest := rest) (t := 0 + (m : Int)) (tt := tt) hb hb2 (by omega) (by omega) hbel
        exact ⟨_, .inl e, xs', rest', _, rfl, by omega, hb'⟩
  obtain ⟨xs, rest, tt, rfl, hl, hbel⟩ := h4
  refine ⟨xs, run_ret (n := 6) (st := [some (.fz (.int cell)), some (.fz (.int base)), some (.fz (.int count)), some (.lst (intsO xs)), some (.fz (.int rest)), tt].set 3 none) ?_, by simp at hl; omega, hbel⟩
  show Ml.execs g16 c16 [some (.fz (.int cell)), some (.fz (.int base)), some (.fz (.int count)), none, none, none] = _
  unfold c16
  rw [x_cons e1, x_cons e2, x_cons (e3.trans e4)]
  exact x_one rfl

/-- a loop that may end early -/
theorem forL_brk {f : D → Ml.St → Out} {P : Nat → Ml.St → Prop} {R : Ml.St → Prop} : ∀ {ds : List D} {n : Nat} {st : Ml.St}, P n st → (∀ i d st, ds[i]? = some d → P (n + i) st → (∃ st', (f d st = .nx st' ∨ f d st = .cnt st') ∧ P (n + i + 1) st') ∨ ∃ st', f d st = .brk st' ∧ R st') → (∀ st, P (n + ds.length) st → R st) → ∃ st', forL f ds st = .nx st' ∧ R st'
  | [], n, st, h0, hs, hr => ⟨st, rfl, hr st h0⟩
  | d :: ds, n, st, h0, hs, hr => by
    rcases hs 0 d st rfl h0 with ⟨st1, e, h1⟩ | ⟨st1, e, h1⟩
    · obtain ⟨st2, e2, h2⟩ := forL_brk (n := n + 1) (ds := ds) h1 (fun i d' st' hd hp => by
        have := hs (i + 1) d' st' (by simpa using hd) (by rw [show n + (i + 1) = n + 1 + i by omega]; exact hp)
        rw [show n + (i + 1) + 1 = n + 1 + i + 1 by omega] at this
        exact this) fun st' h => hr st' (by rw [List.length_cons, show n + (ds.length + 1) = n + 1 + ds.length by omega]; exact h)
      refine ⟨st2, ?_, h2⟩
      rcases e with e | e <;> simp only [forL, e, e2]
    · exact ⟨st1, by simp only [forL, e], h1⟩
theorem eok_int {i : Int} : (D.int i).eok = true := rfl
theorem x_eqi {i j : Int} : op2 .eq (.fz (.int i)) (.fz (.int j)) = some (.fz (.bl (decide (i = j)))) := by
  show (if ((D.int i).eok && (D.int j).eok) = true then some (O.fz (.bl (PyData.eqv (.int i) (.int j)))) else none) = _
  rw [eok_int, eok_int]
  show some (O.fz (D.bl (PyData.eqv (.int i) (.int j)))) = _
  simp only [PyData.eqv]
  rfl
theorem gcd_turn {p r t : Int} {tt uu : Option O} (h0 : 0 ≤ p) (h1 : 0 ≤ r) :
    (r = 0 ∧ bodyF g17 (.nm 2) b17_0 (.int t) [some (.fz (.int p)), some (.fz (.int r)), tt, uu] = .brk [some (.fz (.int p)), some (.fz (.int r)), some (.fz (.int t)), uu]) ∨
    (0 < r ∧ bodyF g17 (.nm 2) b17_0 (.int t) [some (.fz (.int p)), some (.fz (.int r)), tt, uu] = .nx [some (.fz (.int r)), some (.fz (.int (p.fmod r))), some (.fz (.int t)), some (.fz (.int (p.fmod r)))]) := by
  have ht2 : et g17 (.o2 .eq (.v 1) (.k (.int 0))) [some (.fz (.int p)), some (.fz (.int r)), some (.fz (.int t)), uu] = .ok (decide (r = 0)) := x_t2 (x_v (n := 1) rfl) x_k x_eqi
  by_cases hr : r = 0
  · refine .inl ⟨hr, ?_⟩
    show Ml.execs g17 b17_0 [some (.fz (.int p)), some (.fz (.int r)), some (.fz (.int t)), uu] = _
    unfold b17_0
    refine x_stop ?_ (fun st' z => nomatch z)
    rw [x_if ht2, if_pos (decide_eq_true hr)]
    rfl
  · refine .inr ⟨by omega, ?_⟩
    show Ml.execs g17 b17_0 [some (.fz (.int p)), some (.fz (.int r)), some (.fz (.int t)), uu] = _
    unfold b17_0
    have e1 := (x_if (u := [.brk]) (v := []) ht2).trans (if_neg (by simpa using hr))
    have e1' : Ml.exec g17 (.ite (.o2 .eq (.v 1) (.k (.int 0))) [.brk] []) [some (.fz (.int p)), some (.fz (.int r)), some (.fz (.int t)), uu] = .nx [some (.fz (.int p)), some (.fz (.int r)), some (.fz (.int t)), uu] := e1
    rw [x_cons e1']
    have e2 : Ml.exec g17 (.asg true (.nm 3) (.o2 .mod (.bi .int_ [.v 0]) (.v 1))) [some (.fz (.int p)), some (.fz (.int r)), some (.fz (.int t)), uu] = .nx [some (.fz (.int p)), some (.fz (.int r)), some (.fz (.int t)), some (.fz (.int (p.fmod r)))] :=
      x_set (x_o2 (x_int (x_v (n := 0) rfl) rfl) (x_v (n := 1) rfl) (x_mod hr)) rfl
    rw [x_cons e2]
    rfl
theorem gcd_ok (p r : Int) (h0 : 0 ≤ p) (h1 : 0 ≤ r) (h2 : 0 < p + r) (b : Int) (hb1 : p ≤ b) (hb2 : r ≤ b) : ∃ c : Int, f17 [.fz (.int p), .fz (.int r)] = .ok (.fz (.int c), []) ∧ 0 < c ∧ c ≤ b := by
  have e3 := x_for (G := g17) (t := .nm 2) (s := 1) (src := [.k (.int 2000)]) (b := b17_0) (st := [some (.fz (.int p)), some (.fz (.int r)), none, none]) (rs := [.my (.fz (.int 2000))]) (ds := [.int 2000]) (os := rangeOf 0 2000) rfl rfl rfl
  obtain ⟨st', e4, h4⟩ := forL_brk (f := bodyF g17 (.nm 2) b17_0) (ds := O.ds (rangeOf 0 2000)) (n := 0) (st := [some (.fz (.int p)), some (.fz (.int r)), none, none])
    (P := fun i st => ∃ p r tt uu, st = [some (.fz (.int p)), some (.fz (.int r)), tt, uu] ∧ 0 ≤ p ∧ 0 ≤ r ∧ 0 < p + r ∧ p ≤ b ∧ r ≤ b ∧ (0 < i → 0 < p)) (R := fun st => ∃ c r tt uu, st = [some (.fz (.int c)), some (.fz (.int r)), tt, uu] ∧ 0 < c ∧ c ≤ b)
    ⟨p, r, none, none, rfl, h0, h1, h2, hb1, hb2, fun z => absurd z (Nat.lt_irrefl _)⟩ (fun i d st hd hp => by
      obtain ⟨p, r, tt, uu, rfl, h0, h1, h2, hb1, hb2, hi⟩ := hp
      rw [ds_range, List.getElem?_map] at hd
      cases q : (List.range (2000 - 0 : Int).toNat)[i]? with
      | none => rw [q] at hd; cases hd
      | some m =>
        rw [q] at hd
        cases hd
        rcases gcd_turn (p := p) (r := r) (t := 0 + (m : Int)) (tt := tt) (uu := uu) h0 h1 with ⟨z, e⟩ | ⟨z, e⟩
        · exact .inr ⟨_, e, p, r, _, _, rfl, by omega, hb1⟩
        · have k1 := Int.fmod_nonneg_of_pos p z
          have k2 := Int.fmod_lt_of_pos p z
          exact .inl ⟨_, .inl e, r, p.fmod r, _, _, rfl, by omega, k1, by omega, hb2, by omega, fun _ => z⟩) fun st h => by
      obtain ⟨p, r, tt, uu, e, h0, h1, h2, hb1, hb2, hi⟩ := h
      exact ⟨p, r, tt, uu, e, hi (by rw [ds_range]; simp), hb1⟩
  obtain ⟨c, r', tt, uu, rfl, hc, hcb⟩ := h4
  refine ⟨c, run_ret (n := 4) (st := [some (.fz (.int c)), some (.fz (.int r')), tt, uu]) ?_, hc, hcb⟩
  show Ml.execs g17 c17 [some (.fz (.int p)), some (.fz (.int r)), none, none] = _
  unfold c17
  rw [x_cons (e3.trans e4)]
  exact x_one rfl
theorem push_at {G : Gl} {n : Nat} {f : List O → Rs (O × List O)} (os : List O) : (G.push n f).fs n os = f os := by
  show (if n = n then f os else G.fs n os) = _
  rw [if_pos rfl]
section
variable {G : Gl} {st : Ml.St} {es : List E} {rs : List Rv} {ds : List D} {o : O} {f : Nat}
theorem x_call (h1 : evs G es st = .ok rs) (h2 : toDs rs = some ds) (h3 : G.fs f (ds.map .fz) = .ok (o, [])) : ev G (.call f es) st = .ok (.my o) := by
  show (evs G es st).then _ = _
  rw [h1]
  show (match toDs rs with
    | some ds => (G.fs f (ds.map .fz)).then fun r => Rs.ok (Rv.my r.1)
    | none => .bad) = _
  rw [h2]
  show (G.fs f (ds.map .fz)).then _ = _
  rw [h3]
  rfl
theorem x_es {e : E} {x : Rv} (h1 : ev G e st = .ok x) (h2 : evs G es st = .ok rs) : evs G (e :: es) st = .ok (x :: rs) := by
  show (ev G e st).then _ = _
  rw [h1]
  show (evs G es st).then _ = _
  rw [h2]
  rfl
end
/-- a pair of ints -/
def pairD (p r : Int) : D := .tup [.int p, .int r]
theorem lowest_ok (p r : Int) (h1 : 0 < r) (hb : p.natAbs < 2 ^ 62) (hb2 : r < 2 ^ 62) : ∃ c e : Int, f18 [.fz (.int p), .fz (.int r)] = .ok (.fz (pairD c e), []) := by
  obtain ⟨c, hc, hc0, hcb⟩ := gcd_ok (if p < 0 then -p else p) r (by split <;> omega) (by omega) (by split <;> omega) (2 ^ 62) (by split <;> omega) (by omega)
  refine ⟨p.fdiv c, r.fdiv c, run_ret (n := 3) (st := [some (.fz (.int p)), some (.fz (.int r)), some (.fz (.int c))]) ?_⟩
  show Ml.execs g18 c18 [some (.fz (.int p)), some (.fz (.int r)), none] = _
  unfold c18
  have e1 : Ml.exec g18 (.asg true (.nm 2) (.call 17 [.bi .abs [.v 0], .v 1])) [some (.fz (.int p)), some (.fz (.int r)), none] = .nx [some (.fz (.int p)), some (.fz (.int r)), some (.fz (.int c))] :=
    x_set (x_call (rs := [.my (.fz (.int (if p < 0 then -p else p))), .vw (.fz (.int r))]) (ds := [.int (if p < 0 then -p else p), .int r]) rfl rfl ((push_at _).trans hc)) rfl
  rw [x_cons e1]
  refine x_one ?_
  have e2 : ev g18 (.tup [.o2 .fdiv (.v 0) (.v 2), .o2 .fdiv (.v 1) (.v 2)]) [some (.fz (.int p)), some (.fz (.int r)), some (.fz (.int c))] = .ok (.my (.fz (pairD (p.fdiv c) (r.fdiv c)))) := by
    have a1 : ev g18 (.o2 .fdiv (.v 0) (.v 2)) [some (.fz (.int p)), some (.fz (.int r)), some (.fz (.int c))] = .ok (.my (.fz (.int (p.fdiv c)))) := x_o2 (x_v (n := 0) rfl) (x_v (n := 2) rfl) (x_fdiv (by omega) (log2_small (by omega)))
    have a2 : ev g18 (.o2 .fdiv (.v 1) (.v 2)) [some (.fz (.int p)), some (.fz (.int r)), some (.fz (.int c))] = .ok (.my (.fz (.int (r.fdiv c)))) := x_o2 (x_v (n := 1) rfl) (x_v (n := 2) rfl) (x_fdiv (by omega) (log2_small (by omega)))
    show (evs g18 [.o2 .fdiv (.v 0) (.v 2), .o2 .fdiv (.v 1) (.v 2)] _).then _ = _
    rw [x_es a1 (x_es a2 rfl)]
    rfl
  show (ev g18 (.tup [.o2 .fdiv (.v 0) (.v 2), .o2 .fdiv (.v 1) (.v 2)]) _).out _ = _
  rw [e2]
  rfl
theorem x_ret {G : Gl} {st : Ml.St} {e : E} {o : O} (h : ev G e st = .ok (.my o)) : Ml.exec G (.ret e) st = .ret o st := by
  show (ev G e st).out _ = _
  rw [h]
  rfl
theorem value_ok (a b c e : Int) (w : Bool) (ha : 0 ≤ a ∧ a < 1000000) (hb : 0 ≤ b ∧ b < 1000000) (hc : 0 ≤ c ∧ c < 1000000) (he : 0 ≤ e ∧ e < 1000000) :
    ∃ x y : Int, f21 [.fz (.lst [.int a, .int b, .int c, .int e]), .fz (.bl w)] = .ok (.fz (pairD x y), []) := by
  have i0 : ev g21 (.ix (.v 0) (.k (.int 0))) [some (.fz (.lst [.int a, .int b, .int c, .int e])), some (.fz (.bl w))] = .ok (.vw (.fz (.int a))) := rfl
  have i1 : ev g21 (.ix (.v 0) (.k (.int 1))) [some (.fz (.lst [.int a, .int b, .int c, .int e])), some (.fz (.bl w))] = .ok (.vw (.fz (.int b))) := rfl
  have i2 : ev g21 (.ix (.v 0) (.k (.int 2))) [some (.fz (.lst [.int a, .int b, .int c, .int e])), some (.fz (.bl w))] = .ok (.vw (.fz (.int c))) := rfl
  have i3 : ev g21 (.ix (.v 0) (.k (.int 3))) [some (.fz (.lst [.int a, .int b, .int c, .int e])), some (.fz (.bl w))] = .ok (.vw (.fz (.int e))) := rfl
  have t : et g21 (.e (.v 1)) [some (.fz (.lst [.int a, .int b, .int c, .int e])), some (.fz (.bl w))] = .ok w := rfl
  have m1 : mulOk 1000000 b = true := mulOk_l (by decide)
  have m2 : mulOk 999999 e = true := mulOk_l (by decide)
  cases w with
  | true =>
    obtain ⟨x, y, h⟩ := lowest_ok (a + 1000000 * b) (1 + c + 999999 * e) (by omega) (by omega) (by omega)
    refine ⟨x, y, run_ret (n := 2) (st := [some (.fz (.lst [.int a, .int b, .int c, .int e])), some (.fz (.bl true))]) ?_⟩
    show Ml.execs g21 c21 [some (.fz (.lst [.int a, .int b, .int c, .int e])), some (.fz (.bl true))] = _
    unfold c21
    refine x_stop ?_ (fun st' z => nomatch z)
    rw [x_if t, if_pos rfl]
    refine x_one (x_ret (x_call (rs := [.my (.fz (.int (a + 1000000 * b))), .my (.fz (.int (1 + c + 999999 * e)))]) (ds := [.int (a + 1000000 * b), .int (1 + c + 999999 * e)]) ?_ rfl h))
    exact x_es (x_o2 i0 (x_o2 x_k i1 (x_mul m1)) x_add) (x_es (x_o2 (x_o2 x_k i2 x_add) (x_o2 x_k i3 (x_mul m2)) x_add) rfl)
  | false =>
    have k1 := Int.fmod_nonneg_of_pos a (show (0 : Int) < 16 by decide)
    have k2 := Int.fmod_lt_of_pos a (show (0 : Int) < 16 by decide)
    have k3 := Int.fmod_nonneg_of_pos b (show (0 : Int) < 4 by decide)
    have k4 := Int.fmod_lt_of_pos b (show (0 : Int) < 4 by decide)
    obtain ⟨x, y, h⟩ := lowest_ok (a.fmod 16 - 6) (1 + b.fmod 4) (by omega) (by omega) (by omega)
    refine ⟨x, y, run_ret (n := 2) (st := [some (.fz (.lst [.int a, .int b, .int c, .int e])), some (.fz (.bl false))]) ?_⟩
    show Ml.execs g21 c21 [some (.fz (.lst [.int a, .int b, .int c, .int e])), some (.fz (.bl false))] = _
    unfold c21
    have e1 : Ml.exec g21 _ [some (.fz (.lst [.int a, .int b, .int c, .int e])), some (.fz (.bl false))] = .nx _ := (x_if (u := [.ret (.call 18 [.o2 .add (.ix (.v 0) (.k (.int 0))) (.o2 .mul (.k (.int 1000000)) (.ix (.v 0) (.k (.int 1)))), .o2 .add (.o2 .add (.k (.int 1)) (.ix (.v 0) (.k (.int 2)))) (.o2 .mul (.k (.int 999999)) (.ix (.v 0) (.k (.int 3))))])]) (v := []) t).trans rfl
    rw [x_cons e1]
    refine x_one (x_ret (x_call (rs := [.my (.fz (.int (a.fmod 16 - 6))), .my (.fz (.int (1 + b.fmod 4)))]) (ds := [.int (a.fmod 16 - 6), .int (1 + b.fmod 4)]) ?_ rfl h))
    exact x_es (x_o2 (x_o2 (x_int i0 rfl) x_k (x_mod (by decide))) x_k x_sub) (x_es (x_o2 x_k (x_o2 (x_int i1 rfl) x_k (x_mod (by decide))) x_add) rfl)
/-- one turn of a comprehension -/
def lcF (G : Gl) (elt : E) (t : Tg) (ifs : List Te) (st : Ml.St) (o : O) : Rs (Option O) := (match bindT t o (wipeS st t.slots) with
  | some st' => (ets G ifs st').then fun b => if b then (ev G elt st').then fun r => match r.toO with
      | some o => .ok (some o)
      | none => .bad
    else .ok none
  | none => .bad : Rs (Option O)).calm
theorem lcL_inv {f : O → Rs (Option O)} {Q : O → Prop} : ∀ {os : List O}, (∀ o ∈ os, ∃ y, f o = .ok (some y) ∧ Q y) → ∃ ys, lcL f os = .ok ys ∧ ys.length = os.length ∧ ∀ y ∈ ys, Q y
  | [], _ => ⟨[], rfl, rfl, fun _ z => nomatch z⟩
  | o :: os, h => by
    obtain ⟨y, e1, q1⟩ := h o List.mem_cons_self
    obtain ⟨ys, e2, l2, q2⟩ := lcL_inv (os := os) fun p hp => h p (List.mem_cons_of_mem _ hp)
    refine ⟨y :: ys, ?_, by rw [List.length_cons, List.length_cons, l2], fun z hz => ?_⟩
    · show (f o).then _ = _
      rw [e1]
      show (lcL f os).then _ = _
      rw [e2]
      rfl
    · rcases List.mem_cons.mp hz with z' | z'
      · rw [z']; exact q1
      · exact q2 z z'
theorem x_lc {G : Gl} {elt : E} {t : Tg} {s : Nat} {src : List E} {ifs : List Te} {st : Ml.St} {rs : List Rv} {os ys : List O} (h1 : evs G src st = .ok rs) (h2 : walkO s (rs.map Rv.o) = some os) (h3 : lcL (lcF G elt t ifs st) os = .ok ys) (h4 : ys.length < sizeLine) : ev G (.lc elt t s src ifs) st = .ok (.my (.lst ys)) := by
  show (evs G src st).then _ = _
  rw [h1]
  show (match walkO s (rs.map Rv.o) with
    | some os => (lcL (lcF G elt t ifs st) os).then fun ys => if ys.length < sizeLine then Rs.ok (Rv.my (.lst ys)) else .bad
    | none => .bad) = _
  rw [h2]
  show (lcL (lcF G elt t ifs st) os).then _ = _
  rw [h3]
  show (if ys.length < sizeLine then _ else _) = _
  rw [if_pos h4]
theorem ds_fz : ∀ {ds : List D}, O.ds (ds.map .fz) = ds
  | [] => rfl
  | d :: ds => by
    show d :: O.ds (ds.map .fz) = _
    rw [ds_fz]
theorem intsO_map {xs : List Int} : intsO xs = (xs.map D.int).map O.fz := by rw [List.map_map]; rfl
theorem x_sl {G : Gl} {st : Ml.St} {a : E} {lo hi : List E} {x : Rv} {l h : Option Int} {o : O} (h1 : ev G a st = .ok x) (h2 : evo G lo st = .ok l) (h3 : evo G hi st = .ok h) (h4 : slO x.o l h = some o) : ev G (.sl a lo hi) st = .ok (.my o) := by
  show (ev G a st).then _ = _
  rw [h1]
  show (evo G lo st).then _ = _
  rw [h2]
  show (evo G hi st).then _ = _
  rw [h3]
  show lift (slO x.o l h) = _
  rw [h4]
  rfl
theorem x_eo {G : Gl} {st : Ml.St} {a : E} {x : Rv} {j : Int} (h1 : ev G a st = .ok x) (h2 : int? x.o = some j) : evo G [a] st = .ok (some j) := by
  show (ev G a st).then _ = _
  rw [h1]
  show (match int? x.o with | some i => Rs.ok (some i) | none => .bad) = _
  rw [h2]
theorem cut_four {xs : List Int} {k : Nat} (h : 4 * k + 4 ≤ xs.length) : ∃ a b c e : Int, cutD (xs.map D.int) (some (4 * (k : Int))) (some (4 * (k : Int) + 4)) = [.int a, .int b, .int c, .int e] ∧ a ∈ xs ∧ b ∈ xs ∧ c ∈ xs ∧ e ∈ xs := by
  refine ⟨xs[4 * k], xs[4 * k + 1], xs[4 * k + 2], xs[4 * k + 3], ?_, List.getElem_mem _, List.getElem_mem _, List.getElem_mem _, List.getElem_mem _⟩
  have e1 : HT.sIx (xs.map D.int).length 0 (some (4 * (k : Int))) = 4 * k := by
    rw [show (4 * (k : Int)) = ((4 * k : Nat) : Int) by omega, HT.sIx_nat, List.length_map]
    omega
  have e2 : HT.sIx (xs.map D.int).length (xs.map D.int).length (some (4 * (k : Int) + 4)) = 4 * k + 4 := by
    rw [show (4 * (k : Int) + 4) = ((4 * k + 4 : Nat) : Int) by omega, HT.sIx_nat, List.length_map]
    omega
  unfold cutD
  rw [e1, e2, show 4 * k + 4 - 4 * k = 4 by omega]
  rw [← List.map_drop, ← List.map_take]
  have d1 : xs.drop (4 * k) = xs[4 * k] :: xs[4 * k + 1] :: xs[4 * k + 2] :: xs[4 * k + 3] :: xs.drop (4 * k + 4) := by
    rw [List.drop_eq_getElem_cons (by omega), List.drop_eq_getElem_cons (by omega), List.drop_eq_getElem_cons (by omega), List.drop_eq_getElem_cons (by omega)]
  rw [d1]
  rfl
theorem below_get {b : Int} {xs : List Int} (h : Below b xs) {x : Int} (hx : x ∈ xs) : 0 ≤ x ∧ x < b := h x hx
/-- a list of pairs -/
abbrev pairsO (row : List (Int × Int)) : List O := row.map fun p => .fz (pairD p.1 p.2)
theorem to_pairs : ∀ {ys : List O}, (∀ y ∈ ys, ∃ a b, y = .fz (pairD a b)) → ∃ row : List (Int × Int), ys = pairsO row ∧ row.length = ys.length
  | [], _ => ⟨[], rfl, rfl⟩
  | y :: ys, h => by
    obtain ⟨a, b, rfl⟩ := h y List.mem_cons_self
    obtain ⟨row, e, l⟩ := to_pairs (ys := ys) fun z hz => h z (List.mem_cons_of_mem _ hz)
    exact ⟨(a, b) :: row, by rw [e]; rfl, by rw [List.length_cons, List.length_cons, l]⟩
theorem row_ok (cell count : Int) (w : Bool) (h0 : 0 ≤ count) (h1 : count ≤ 5) : ∃ row : List (Int × Int), f22 [.fz (.int cell), .fz (.int count), .fz (.bl w)] = .ok (.lst (pairsO row), []) ∧ (row.length : Int) = count := by
  obtain ⟨xs, hx, hl, hbel⟩ := digits_ok cell 1000000 (4 * count) (by decide) (by decide) (by omega) (by omega)
  have e1 : Ml.exec g22 (.asg true (.nm 3) (.call 16 [.v 0, .k (.int 1000000), .o2 .mul (.k (.int 4)) (.v 1)])) [some (.fz (.int cell)), some (.fz (.int count)), some (.fz (.bl w)), none, none] = .nx [some (.fz (.int cell)), some (.fz (.int count)), some (.fz (.bl w)), some (.fz (.lst (xs.map D.int))), none] := by
    refine x_set (x := .my (.lst (intsO xs))) (x_call (rs := [.vw (.fz (.int cell)), .my (.fz (.int 1000000)), .my (.fz (.int (4 * count)))]) (ds := [.int cell, .int 1000000, .int (4 * count)]) ?_ rfl hx) ?_
    · exact x_es (x_v (n := 0) rfl) (x_es x_k (x_es (x_o2 x_k (x_v (n := 1) rfl) (x_mul (mulOk_l (by decide)))) rfl))
    · show some (O.fz (.lst (O.ds (intsO xs)))) = _
      rw [intsO_map, ds_fz]
  have hw : walkO 1 [O.fz (.int count)] = some (rangeOf 0 count) := by
    show (if -(2 ^ 62) ≤ count ∧ count < 2 ^ 62 then _ else _) = _
    rw [if_pos (by omega)]
  obtain ⟨ys, e2, l2, q2⟩ := lcL_inv (f := lcF g22 (.call 21 [.sl (.v 3) [.o2 .mul (.k (.int 4)) (.v 4)] [.o2 .add (.o2 .mul (.k (.int 4)) (.v 4)) (.k (.int 4))], .v 2]) (.nm 4) [] [some (.fz (.int cell)), some (.fz (.int count)), some (.fz (.bl w)), some (.fz (.lst (xs.map D.int))), none])
    (Q := fun y => ∃ a b, y = .fz (pairD a b)) (os := rangeOf 0 count) fun o ho => by
      obtain ⟨k, hk, rfl⟩ := List.mem_map.mp ho
      have hk' : k < count.toNat := by simpa using hk
      obtain ⟨a, b, c, e, hcut, ma, mb, mc, me⟩ := cut_four (xs := xs) (k := k) (by omega)
      obtain ⟨x, y, hv⟩ := value_ok a b c e w (hbel a ma) (hbel b mb) (hbel c mc) (hbel e me)
      refine ⟨.fz (pairD x y), ?_, x, y, rfl⟩
      have ez : (0 : Int) + (k : Int) = k := by omega
      have em : ev g22 (.o2 .mul (.k (.int 4)) (.v 4)) [some (.fz (.int cell)), some (.fz (.int count)), some (.fz (.bl w)), some (.fz (.lst (xs.map D.int))), some (.fz (.int (0 + (k : Int))))] = .ok (.my (.fz (.int (4 * (k : Int))))) := by
        rw [ez]
        exact x_o2 x_k (x_v (n := 4) rfl) (x_mul (mulOk_l (by decide)))
      have es : ev g22 (.sl (.v 3) [.o2 .mul (.k (.int 4)) (.v 4)] [.o2 .add (.o2 .mul (.k (.int 4)) (.v 4)) (.k (.int 4))]) [some (.fz (.int cell)), some (.fz (.int count)), some (.fz (.bl w)), some (.fz (.lst (xs.map D.int))), some (.fz (.int (0 + (k : Int))))] = .ok (.my (.lst ([D.int a, .int b, .int c, .int e].map .fz))) := by
        refine x_sl (x_v (n := 3) rfl) (x_eo em rfl) (x_eo (x_o2 em x_k x_add) rfl) ?_
        show some (O.lst ((cutD (xs.map D.int) (some (4 * (k : Int))) (some (4 * (k : Int) + 4))).map .fz)) = _
        rw [hcut]
      have ec : ev g22 (.call 21 [.sl (.v 3) [.o2 .mul (.k (.int 4)) (.v 4)] [.o2 .add (.o2 .mul (.k (.int 4)) (.v 4)) (.k (.int 4))], .v 2]) [some (.fz (.int cell)), some (.fz (.int count)), some (.fz (.bl w)), some (.fz (.lst (xs.map D.int))), some (.fz (.int (0 + (k : Int))))] = .ok (.my (.fz (pairD x y))) :=
        x_call (rs := [.my (.lst ([D.int a, .int b, .int c, .int e].map .fz)), .vw (.fz (.bl w))]) (ds := [.lst [.int a, .int b, .int c, .int e], .bl w]) (x_es es (x_es (x_v (n := 2) rfl) rfl)) rfl ((push_at _).trans hv)
      show ((ev g22 (.call 21 [.sl (.v 3) [.o2 .mul (.k (.int 4)) (.v 4)] [.o2 .add (.o2 .mul (.k (.int 4)) (.v 4)) (.k (.int 4))], .v 2]) [some (.fz (.int cell)), some (.fz (.int count)), some (.fz (.bl w)), some (.fz (.lst (xs.map D.int))), some (.fz (.int (0 + (k : Int))))]).then _).calm = _
      rw [ec]
      rfl
  obtain ⟨row, er, lr⟩ := to_pairs q2
  have hlen : (rangeOf 0 count).length = count.toNat := by unfold rangeOf; simp
  have hs : sizeLine = 16777216 := by decide
  refine ⟨row, run_ret (n := 5) (st := [some (.fz (.int cell)), some (.fz (.int count)), some (.fz (.bl w)), some (.fz (.lst (xs.map D.int))), none]) ?_, by omega⟩
  show Ml.execs g22 c22 [some (.fz (.int cell)), some (.fz (.int count)), some (.fz (.bl w)), none, none] = _
  unfold c22
  rw [x_cons e1]
  refine x_one (x_ret ?_)
  rw [← er]
  exact x_lc (rs := [.vw (.fz (.int count))]) (x_es (x_v (n := 1) rfl) rfl) hw e2 (by omega)
theorem atI_map {ns : List Int} {k : Int} (h0 : 0 ≤ k) (h1 : k < ns.length) : ∃ c : Int, L2.atI ((ns.map D.int).map O.fz) k = some (.fz (.int c)) := by
  have hk : k.toNat < ns.length := by omega
  refine ⟨ns[k.toNat], ?_⟩
  unfold L2.atI L2.ixN
  simp [h0, h1, hk]
theorem cell_ok (ns : List Int) (k : Int) (hk : 0 ≤ k) : ∃ c : Int, f15 [.fz (.lst (ns.map D.int)), .fz (.int k)] = .ok (.fz (.int c), []) := by
  have el : ev g15 (.bi .len [.v 0]) [some (.fz (.lst (ns.map D.int))), some (.fz (.int k))] = .ok (.my (.fz (.int (((ns.map D.int).map O.fz).length : Nat)))) := rfl
  rw [List.length_map, List.length_map] at el
  have t : et g15 (.o2 .lt (.v 1) (.bi .len [.v 0])) [some (.fz (.lst (ns.map D.int))), some (.fz (.int k))] = .ok (decide (k < (ns.length : Int))) := x_t2 (x_v (n := 1) rfl) el x_lt
  by_cases h : k < (ns.length : Int)
  · obtain ⟨c, hc⟩ := atI_map hk h
    refine ⟨c, run_ret (n := 2) (st := [some (.fz (.lst (ns.map D.int))), some (.fz (.int k))]) ?_⟩
    show Ml.execs g15 c15 [some (.fz (.lst (ns.map D.int))), some (.fz (.int k))] = _
    unfold c15
    refine x_stop ?_ (fun st' z => nomatch z)
    rw [x_if t, if_pos (decide_eq_true h)]
    refine x_one ?_
    have e : ev g15 (.ix (.v 0) (.v 1)) [some (.fz (.lst (ns.map D.int))), some (.fz (.int k))] = .ok (.vw (.fz (.int c))) := by
      show (match L2.atI ((ns.map D.int).map O.fz) k with | some o => Rs.ok (Rv.vw o) | none => .bad) = _
      rw [hc]
    show (ev g15 (.ix (.v 0) (.v 1)) _).out _ = _
    rw [e]
    rfl
  · refine ⟨0, run_ret (n := 2) (st := [some (.fz (.lst (ns.map D.int))), some (.fz (.int k))]) ?_⟩
    show Ml.execs g15 c15 [some (.fz (.lst (ns.map D.int))), some (.fz (.int k))] = _
    unfold c15
    have e1 := (x_if (u := [.ret (.ix (.v 0) (.v 1))]) (v := []) t).trans (if_neg (by simpa using h))
    have e1' : Ml.exec g15 (.ite (.o2 .lt (.v 1) (.bi .len [.v 0])) [.ret (.ix (.v 0) (.v 1))] []) [some (.fz (.lst (ns.map D.int))), some (.fz (.int k))] = .nx [some (.fz (.lst (ns.map D.int))), some (.fz (.int k))] := e1
    rw [x_cons e1']
    rfl
/-- a list of rows, each its own -/
abbrev rowsO (rows : List (List (Int × Int))) : List O := rows.map fun r => .lst (pairsO r)
theorem rows_turn {ns : List Int} {at_ count width t : Int} {loose w : Bool} {rows : List (List (Int × Int))} {uu vv : Option O} (ha : 0 ≤ at_) (hw : 0 ≤ width ∧ width ≤ 5) (ht : 0 ≤ t) (hl : rows.length < 1000) :
    ∃ row, row.length ≤ 5 ∧ ∃ z : Int, bodyF g23 (.nm 7) b23_0 (.int t) [some (.fz (.lst (ns.map D.int))), some (.fz (.int at_)), some (.fz (.int count)), some (.fz (.int width)), some (.fz (.bl loose)), some (.fz (.bl w)), some (.lst (rowsO rows)), uu, vv] =
      .nx [some (.fz (.lst (ns.map D.int))), some (.fz (.int at_)), some (.fz (.int count)), some (.fz (.int width)), some (.fz (.bl loose)), some (.fz (.bl w)), some (.lst (rowsO (rows ++ [row]))), some (.fz (.int t)), some (.fz (.int z))] := by
  have hs : sizeLine = 16777216 := by decide
  have size : ∃ z : Int, 0 ≤ z ∧ z ≤ 5 ∧ ∀ vv, Ml.execs g23 [.asg true (.nm 8) (.v 3), .ite (.e (.v 4)) [.asg true (.nm 8) (.o2 .mod (.bi .int_ [.o2 .add (.v 3) (.v 7)]) (.k (.int 5)))] []] [some (.fz (.lst (ns.map D.int))), some (.fz (.int at_)), some (.fz (.int count)), some (.fz (.int width)), some (.fz (.bl loose)), some (.fz (.bl w)), some (.lst (rowsO rows)), some (.fz (.int t)), vv] =
      .nx [some (.fz (.lst (ns.map D.int))), some (.fz (.int at_)), some (.fz (.int count)), some (.fz (.int width)), some (.fz (.bl loose)), some (.fz (.bl w)), some (.lst (rowsO rows)), some (.fz (.int t)), some (.fz (.int z))] := by
    cases loose with
    | false => exact ⟨width, hw.1, hw.2, fun vv => rfl⟩
    | true =>
      refine ⟨(width + t).fmod 5, Int.fmod_nonneg_of_pos _ (by decide), by have := Int.fmod_lt_of_pos (width + t) (show (0 : Int) < 5 by decide); omega, fun vv => ?_⟩
      have e1 : Ml.exec g23 (.asg true (.nm 8) (.v 3)) [some (.fz (.lst (ns.map D.int))), some (.fz (.int at_)), some (.fz (.int count)), some (.fz (.int width)), some (.fz (.bl true)), some (.fz (.bl w)), some (.lst (rowsO rows)), some (.fz (.int t)), vv] =
        .nx [some (.fz (.lst (ns.map D.int))), some (.fz (.int at_)), some (.fz (.int count)), some (.fz (.int width)), some (.fz (.bl true)), some (.fz (.bl w)), some (.lst (rowsO rows)), some (.fz (.int t)), some (.fz (.int width))] := rfl
      rw [x_cons e1]
      refine x_one ?_
      have tt : et g23 (.e (.v 4)) [some (.fz (.lst (ns.map D.int))), some (.fz (.int at_)), some (.fz (.int count)), some (.fz (.int width)), some (.fz (.bl true)), some (.fz (.bl w)), some (.lst (rowsO rows)), some (.fz (.int t)), some (.fz (.int width))] = .ok true := rfl
      rw [x_if tt, if_pos rfl]
      refine x_one ?_
      rw [x_set (x_o2 (x_int (x_o2 (x_v (n := 3) rfl) (x_v (n := 7) rfl) x_add) rfl) x_k (x_mod (by decide))) rfl]
      rfl
  obtain ⟨z, z0, z1, hz⟩ := size
  obtain ⟨c, hc⟩ := cell_ok ns (at_ + t) (by omega)
  obtain ⟨row, hrow, hlen⟩ := row_ok c z w z0 z1
  refine ⟨row, by omega, z, ?_⟩
  show Ml.execs g23 b23_0 [some (.fz (.lst (ns.map D.int))), some (.fz (.int at_)), some (.fz (.int count)), some (.fz (.int width)), some (.fz (.bl loose)), some (.fz (.bl w)), some (.lst (rowsO rows)), some (.fz (.int t)), vv] = _
  have app : ∀ {ss rr : List S} {st st' : Ml.St}, Ml.execs g23 ss st = .nx st' → Ml.execs g23 (ss ++ rr) st = Ml.execs g23 rr st' := fun {ss} => by
    induction ss with
    | nil => intro rr st st' h; cases h; rfl
    | cons s ss ih =>
      intro rr st st' h
      have h : (Ml.exec g23 s st).then (fun st => Ml.execs g23 ss st) = .nx st' := h
      show (Ml.exec g23 s st).then (fun st => Ml.execs g23 (ss ++ rr) st) = _
      cases q : Ml.exec g23 s st with
      | nx st1 => rw [q] at h; exact ih h
      | ret _ _ => rw [q] at h; cases h
      | brk _ => rw [q] at h; cases h
      | cnt _ => rw [q] at h; cases h
      | exc _ _ => rw [q] at h; cases h
      | bad => rw [q] at h; cases h
  refine (app (rr := [.mut 6 [] .app [.call 22 [.call 15 [.v 0, .o2 .add (.v 1) (.v 7)], .v 8, .v 5]]]) (hz vv)).trans ?_
  refine x_one ?_
  rw [x_app (os := rowsO rows) rfl (x_call (rs := [.my (.fz (.int c)), .vw (.fz (.int z)), .vw (.fz (.bl w))]) (ds := [.int c, .int z, .bl w])
    (x_es (x_call (rs := [.vw (.fz (.lst (ns.map D.int))), .my (.fz (.int (at_ + t)))]) (ds := [.lst (ns.map D.int), .int (at_ + t)]) (x_es (x_v (n := 0) rfl) (x_es (x_o2 (x_v (n := 1) rfl) (x_v (n := 7) rfl) x_add) rfl)) rfl hc) (x_es (x_v (n := 8) rfl) (x_es (x_v (n := 5) rfl) rfl))) rfl hrow) rfl (by rw [List.length_map]; omega)]
  simp [rowsO]
theorem rows_ok (ns : List Int) (at_ count width : Int) (loose w : Bool) (ha : 0 ≤ at_) (hc : 0 ≤ count ∧ count ≤ 5) (hw : 0 ≤ width ∧ width ≤ 5) :
    ∃ rows, (rows.length ≤ 5 ∧ ∀ r ∈ rows, r.length ≤ 5) ∧ f23 [.fz (.lst (ns.map D.int)), .fz (.int at_), .fz (.int count), .fz (.int width), .fz (.bl loose), .fz (.bl w)] = .ok (.lst (rowsO rows), []) := by
  have hwk : walkO 1 (([D.int count]).map O.fz) = some (rangeOf 0 count) := by
    show (if -(2 ^ 62) ≤ count ∧ count < 2 ^ 62 then _ else _) = _
    rw [if_pos (by omega)]
  have e3 := x_for (G := g23) (t := .nm 7) (s := 1) (src := [.v 2]) (b := b23_0) (st := [some (.fz (.lst (ns.map D.int))), some (.fz (.int at_)), some (.fz (.int count)), some (.fz (.int width)), some (.fz (.bl loose)), some (.fz (.bl w)), some (.lst []), none, none]) (rs := [.vw (.fz (.int count))]) (ds := [.int count]) rfl rfl hwk
  obtain ⟨st', e4, h4⟩ := forL_inv (f := bodyF g23 (.nm 7) b23_0) (ds := O.ds (rangeOf 0 count)) (n := 0) (st := [some (.fz (.lst (ns.map D.int))), some (.fz (.int at_)), some (.fz (.int count)), some (.fz (.int width)), some (.fz (.bl loose)), some (.fz (.bl w)), some (.lst []), none, none])
    (P := fun i st => ∃ rows uu vv, st = [some (.fz (.lst (ns.map D.int))), some (.fz (.int at_)), some (.fz (.int count)), some (.fz (.int width)), some (.fz (.bl loose)), some (.fz (.bl w)), some (.lst (rowsO rows)), uu, vv] ∧ rows.length = i ∧ ∀ r ∈ rows, r.length ≤ 5) ⟨[], none, none, rfl, rfl, fun _ z => nomatch z⟩ fun i d st hd hp => by
      obtain ⟨rows, uu, vv, rfl, hl, hr⟩ := hp
      rw [ds_range, List.getElem?_map] at hd
      cases q : (List.range (count - 0).toNat)[i]? with
      | none => rw [q] at hd; cases hd
      | some m =>
        rw [q] at hd
        cases hd
        have hm : i < (count - 0).toNat := by
          have := (List.getElem?_eq_some_iff.mp q).1
          simpa using this
        obtain ⟨row, hrow, z, e⟩ := rows_turn (ns := ns) (at_ := at_) (count := count) (width := width) (t := 0 + (m : Int)) (loose := loose) (w := w) (rows := rows) (uu := uu) (vv := vv) ha hw (by omega) (by omega)
        exact ⟨_, .inl e, rows ++ [row], _, _, rfl, by rw [List.length_append, hl]; simp, fun r h => (List.mem_append.mp h).elim (hr r) fun h => by rw [List.mem_singleton.mp h]; exact hrow⟩
  obtain ⟨rows, uu, vv, rfl, hlen, hr⟩ := h4
  refine ⟨rows, ⟨by rw [ds_range, List.length_map, List.length_range] at hlen; omega, hr⟩, run_ret (n := 9) (st := [some (.fz (.lst (ns.map D.int))), some (.fz (.int at_)), some (.fz (.int count)), some (.fz (.int width)), some (.fz (.bl loose)), some (.fz (.bl w)), none, uu, vv]) ?_⟩
  show Ml.execs g23 c23 [some (.fz (.lst (ns.map D.int))), some (.fz (.int at_)), some (.fz (.int count)), some (.fz (.int width)), some (.fz (.bl loose)), some (.fz (.bl w)), none, none, none] = _
  unfold c23
  have e1 : Ml.exec g23 (.asg false (.nm 6) (.lst [])) [some (.fz (.lst (ns.map D.int))), some (.fz (.int at_)), some (.fz (.int count)), some (.fz (.int width)), some (.fz (.bl loose)), some (.fz (.bl w)), none, none, none] =
    .nx [some (.fz (.lst (ns.map D.int))), some (.fz (.int at_)), some (.fz (.int count)), some (.fz (.int width)), some (.fz (.bl loose)), some (.fz (.bl w)), some (.lst []), none, none] := rfl
  rw [x_cons e1, x_cons (e3.trans e4)]
  exact x_one rfl
theorem x_lcF {G : Gl} {elt : E} {t : Tg} {ifs : List Te} {st st' : Ml.St} {o y : O} {x : Rv} (h1 : bindT t o (wipeS st t.slots) = some st') (h2 : ets G ifs st' = .ok true) (h3 : ev G elt st' = .ok x) (h4 : x.toO = some y) : lcF G elt t ifs st o = .ok (some y) := by
  unfold lcF
  simp only [h1, h2, Rs.then, if_true, h3, h4, Rs.calm]
theorem to_intsO : ∀ {ys : List O}, (∀ y ∈ ys, ∃ a : Int, y = .fz (.int a)) → ∃ xs : List Int, ys = intsO xs
  | [], _ => ⟨[], rfl⟩
  | y :: ys, h => by
    obtain ⟨a, rfl⟩ := h y List.mem_cons_self
    obtain ⟨xs, e⟩ := to_intsO (ys := ys) fun z hz => h z (List.mem_cons_of_mem _ hz)
    exact ⟨a :: xs, by rw [e]; rfl⟩
theorem numbers_ok (cell : Int) : ∃ xs : List Int, xs.length ≤ 5 ∧ f24 [.fz (.int cell)] = .ok (.lst (intsO xs), []) := by
  obtain ⟨xs, hx, hl, hbel⟩ := digits_ok cell 1000 5 (by decide) (by decide) (by decide) (by decide)
  have e1 : Ml.exec g24 (.asg true (.nm 1) (.call 16 [.v 0, .k (.int 1000), .k (.int 5)])) [some (.fz (.int cell)), none, none] = .nx [some (.fz (.int cell)), some (.fz (.lst (xs.map D.int))), none] := by
    refine x_set (x := .my (.lst (intsO xs))) (x_call (rs := [.vw (.fz (.int cell)), .my (.fz (.int 1000)), .my (.fz (.int 5))]) (ds := [.int cell, .int 1000, .int 5]) rfl rfl hx) ?_
    show some (O.fz (.lst (O.ds (intsO xs)))) = _
    rw [intsO_map, ds_fz]
  obtain ⟨c, hc⟩ := atI_map (ns := xs) (k := 4) (by decide) (by omega)
  have ei : ev g24 (.ix (.v 1) (.k (.int 4))) [some (.fz (.int cell)), some (.fz (.lst (xs.map D.int))), none] = .ok (.vw (.fz (.int c))) := by
    show (match L2.atI ((xs.map D.int).map O.fz) 4 with | some o => Rs.ok (Rv.vw o) | none => .bad) = _
    rw [hc]
  obtain ⟨zs, hz, hzl⟩ : ∃ zs : List Int, cutD (xs.map D.int) none (some (c.fmod 5)) = zs.map D.int ∧ zs.length ≤ xs.length := by
    unfold cutD
    rw [← List.map_drop, ← List.map_take]
    exact ⟨_, rfl, by rw [List.length_take, List.length_drop]; omega⟩
  have es : ev g24 (.sl (.v 1) [] [.o2 .mod (.bi .int_ [.ix (.v 1) (.k (.int 4))]) (.k (.int 5))]) [some (.fz (.int cell)), some (.fz (.lst (xs.map D.int))), none] = .ok (.my (.lst ((zs.map D.int).map O.fz))) := by
    refine x_sl (x_v (n := 1) rfl) rfl (x_eo (x_o2 (x_int ei rfl) x_k (x_mod (by decide))) rfl) ?_
    show some (O.lst ((cutD (xs.map D.int) none (some (c.fmod 5))).map .fz)) = _
    rw [hz]
  obtain ⟨ys, e2, l2, q2⟩ := lcL_inv (f := lcF g24 (.o2 .mod (.bi .int_ [.v 2]) (.k (.int 6))) (.nm 2) [] [some (.fz (.int cell)), some (.fz (.lst (xs.map D.int))), none]) (Q := fun y => ∃ a : Int, y = .fz (.int a)) (os := (zs.map D.int).map O.fz) fun o ho => by
    obtain ⟨d, hd, rfl⟩ := List.mem_map.mp ho
    obtain ⟨z, _, rfl⟩ := List.mem_map.mp hd
    refine ⟨.fz (.int (z.fmod 6)), ?_, _, rfl⟩
    exact x_lcF (st' := [some (.fz (.int cell)), some (.fz (.lst (xs.map D.int))), some (.fz (.int z))]) rfl rfl (x_o2 (x_int (x_v (n := 2) rfl) rfl) x_k (x_mod (by decide))) rfl
  obtain ⟨ws, ew⟩ := to_intsO q2
  have hs : sizeLine = 16777216 := by decide
  refine ⟨ws, by have := congrArg List.length ew; rw [l2, List.length_map, List.length_map, List.length_map] at this; omega, run_ret (n := 3) (st := [some (.fz (.int cell)), some (.fz (.lst (xs.map D.int))), none]) ?_⟩
  show Ml.execs g24 c24 [some (.fz (.int cell)), none, none] = _
  unfold c24
  rw [x_cons e1]
  refine x_one (x_ret ?_)
  rw [← ew]
  exact x_lc (rs := [.my (.lst ((zs.map D.int).map O.fz))]) (x_es es rfl) rfl e2 (by rw [l2, List.length_map, List.length_map]; omega)
theorem int_is (i : Int) : f19 [.fz (.int i)] = .ok (.fz (.bl true), []) := rfl
theorem x_nei {i j : Int} : op2 .ne (.fz (.int i)) (.fz (.int j)) = some (.fz (.bl !decide (i = j))) := by
  show (if ((D.int i).eok && (D.int j).eok) = true then some (O.fz (.bl !PyData.eqv (.int i) (.int j))) else none) = _
  rw [eok_int, eok_int]
  show some (O.fz (D.bl !PyData.eqv (.int i) (.int j))) = _
  simp only [PyData.eqv]
  rfl
theorem x_tor {G : Gl} {st : Ml.St} {a b : Te} {q : Bool} (h1 : et G a st = .ok false) (h2 : et G b st = .ok q) : et G (.or a b) st = .ok q := by
  show (et G a st).then _ = _
  rw [h1]
  exact h2
theorem x_tnot {G : Gl} {st : Ml.St} {a : Te} {q : Bool} (h1 : et G a st = .ok q) : et G (.not a) st = .ok !q := by
  show (et G a st).then _ = _
  rw [h1]
  rfl
theorem x_te {G : Gl} {st : Ml.St} {a : E} {x : Rv} {q : Bool} (h1 : ev G a st = .ok x) (h2 : truth x.o = some q) : et G (.e a) st = .ok q := by
  show (ev G a st).then _ = _
  rw [h1]
  show (match truth x.o with | some b => Rs.ok b | none => .bad) = _
  rw [h2]
/-- a test that fails, an empty else -/
theorem x_skip {G : Gl} {st : Ml.St} {c : Te} {u : List S} (h : et G c st = .ok false) : Ml.exec G (.ite c u []) st = .nx st := by
  rw [x_if h]
  rfl
theorem same_ok (a b : Int) : f20 [.fz (pairD a b), .fz (pairD a b)] = .ok (.fz (.bl true), []) := by
  have i0 : ev g20 (.ix (.v 0) (.k (.int 0))) [some (.fz (pairD a b)), some (.fz (pairD a b))] = .ok (.vw (.fz (.int a))) := rfl
  have i1 : ev g20 (.ix (.v 0) (.k (.int 1))) [some (.fz (pairD a b)), some (.fz (pairD a b))] = .ok (.vw (.fz (.int b))) := rfl
  have j0 : ev g20 (.ix (.v 1) (.k (.int 0))) [some (.fz (pairD a b)), some (.fz (pairD a b))] = .ok (.vw (.fz (.int a))) := rfl
  have j1 : ev g20 (.ix (.v 1) (.k (.int 1))) [some (.fz (pairD a b)), some (.fz (pairD a b))] = .ok (.vw (.fz (.int b))) := rfl
  have t1 : et g20 (.or (.not (.e (.is1 (.isi ["tuple"]) (.v 0)))) (.o2 .ne (.bi .len [.v 0]) (.k (.int 2)))) [some (.fz (pairD a b)), some (.fz (pairD a b))] = .ok false :=
    x_tor rfl (x_t2 (x := .my (.fz (.int 2))) rfl x_k x_nei)
  have t2 : et g20 (.or (.not (.e (.call 19 [.ix (.v 0) (.k (.int 0))]))) (.not (.e (.call 19 [.ix (.v 0) (.k (.int 1))])))) [some (.fz (pairD a b)), some (.fz (pairD a b))] = .ok false :=
    x_tor (x_tnot (q := true) (x_te (x_call (x_es i0 rfl) rfl ((push_at _).trans (int_is a))) rfl)) (x_tnot (q := true) (x_te (x_call (x_es i1 rfl) rfl ((push_at _).trans (int_is b))) rfl))
  refine run_ret (n := 2) (st := [some (.fz (pairD a b)), some (.fz (pairD a b))]) ?_
  show Ml.execs g20 c20 [some (.fz (pairD a b)), some (.fz (pairD a b))] = _
  unfold c20
  rw [x_cons (x_skip t1), x_cons (x_skip t2)]
  refine x_one (x_ret ?_)
  have q0 : ev g20 (.o2 .eq (.ix (.v 0) (.k (.int 0))) (.ix (.v 1) (.k (.int 0)))) [some (.fz (pairD a b)), some (.fz (pairD a b))] = .ok (.my (.fz (.bl true))) := by
    have := x_o2 (op := .eq) i0 j0 x_eqi
    rw [decide_eq_true rfl] at this
    exact this
  have q1 : ev g20 (.o2 .eq (.ix (.v 0) (.k (.int 1))) (.ix (.v 1) (.k (.int 1)))) [some (.fz (pairD a b)), some (.fz (pairD a b))] = .ok (.my (.fz (.bl true))) := by
    have := x_o2 (op := .eq) i1 j1 x_eqi
    rw [decide_eq_true rfl] at this
    exact this
  show (ev g20 (.o2 .eq (.ix (.v 0) (.k (.int 0))) (.ix (.v 1) (.k (.int 0)))) _).then _ = _
  rw [q0]
  exact q1
/-- a row as data -/
abbrev rowD (row : List (Int × Int)) : List D := row.map fun p => pairD p.1 p.2
theorem atI_row {ds : List D} {k : Nat} {d : D} (h : ds[k]? = some d) : L2.atI (ds.map O.fz) ((0 : Int) + (k : Int)) = some (.fz d) := by
  obtain ⟨hk, hd⟩ := List.getElem?_eq_some_iff.mp h
  have e : (0 : Int) + (k : Int) = k := by omega
  rw [e]
  unfold L2.atI L2.ixN
  simp [hk, hd]
theorem walk1 (count : Int) (h0 : 0 ≤ count) (h1 : count < 2 ^ 62) : walkO 1 (([D.int count]).map O.fz) = some (rangeOf 0 count) := by
  show (if -(2 ^ 62) ≤ count ∧ count < 2 ^ 62 then _ else _) = _
  rw [if_pos (by omega)]
theorem len_ne {G : Gl} {st : Ml.St} {a b : E} {n m : Nat} (h1 : ev G (.bi .len [a]) st = .ok (.my (.fz (.int n)))) (h2 : ev G (.bi .len [b]) st = .ok (.my (.fz (.int m)))) (h : n = m) : et G (.o2 .ne (.bi .len [a]) (.bi .len [b])) st = .ok false := by
  have := x_t2 (op := .ne) h1 h2 x_nei
  rw [h, decide_eq_true rfl] at this
  exact this
theorem kept_loop {G : Gl} {b : List S} {row due : List D} (hl : row.length = due.length) (hz : due.length ≤ 1000000)
    (turn : ∀ (k : Nat) (d d' : D) (tt : Option O), row[k]? = some d → due[k]? = some d' → bodyF G (.nm 2) b (.int (0 + (k : Int))) [some (.fz (.tup row)), some (.fz (.lst due)), tt] = .nx [some (.fz (.tup row)), some (.fz (.lst due)), some (.fz (.int (0 + (k : Int))))]) :
    Ml.execs G [.ite (.or (.not (.e (.is1 (.isi ["tuple"]) (.v 0)))) (.o2 .ne (.bi .len [.v 0]) (.bi .len [.v 1]))) [.ret (.k (.bl false))] [], .for_ (.nm 2) 1 [.bi .len [.v 1]] b, .ret (.k (.bl true))] [some (.fz (.tup row)), some (.fz (.lst due)), none] =
      .ret (.fz (.bl true)) [some (.fz (.tup row)), some (.fz (.lst due)), none] ∨ ∃ tt, Ml.execs G [.ite (.or (.not (.e (.is1 (.isi ["tuple"]) (.v 0)))) (.o2 .ne (.bi .len [.v 0]) (.bi .len [.v 1]))) [.ret (.k (.bl false))] [], .for_ (.nm 2) 1 [.bi .len [.v 1]] b, .ret (.k (.bl true))] [some (.fz (.tup row)), some (.fz (.lst due)), none] =
      .ret (.fz (.bl true)) [some (.fz (.tup row)), some (.fz (.lst due)), tt] := by
  have l1 : ev G (.bi .len [.v 0]) [some (.fz (.tup row)), some (.fz (.lst due)), none] = .ok (.my (.fz (.int ((row.map O.fz).length : Nat)))) := rfl
  have l2 : ev G (.bi .len [.v 1]) [some (.fz (.tup row)), some (.fz (.lst due)), none] = .ok (.my (.fz (.int ((due.map O.fz).length : Nat)))) := rfl
  rw [List.length_map] at l1 l2
  have t1 : et G (.or (.not (.e (.is1 (.isi ["tuple"]) (.v 0)))) (.o2 .ne (.bi .len [.v 0]) (.bi .len [.v 1]))) [some (.fz (.tup row)), some (.fz (.lst due)), none] = .ok false := x_tor rfl (len_ne l1 l2 hl)
  have hw : walkO 1 (([D.int due.length]).map O.fz) = some (rangeOf 0 due.length) := walk1 _ (by omega) (by omega)
  have e3 := x_for (G := G) (t := .nm 2) (s := 1) (src := [.bi .len [.v 1]]) (b := b) (st := [some (.fz (.tup row)), some (.fz (.lst due)), none]) (rs := [.my (.fz (.int due.length))]) (ds := [.int due.length]) (x_es l2 rfl) rfl hw
  obtain ⟨st', e4, h4⟩ := forL_inv (f := bodyF G (.nm 2) b) (ds := O.ds (rangeOf 0 due.length)) (n := 0) (st := [some (.fz (.tup row)), some (.fz (.lst due)), none]) (P := fun _ st => ∃ tt, st = [some (.fz (.tup row)), some (.fz (.lst due)), tt]) ⟨none, rfl⟩ fun i d st hd hp => by
      obtain ⟨tt, rfl⟩ := hp
      rw [ds_range, List.getElem?_map] at hd
      cases q : (List.range ((due.length : Int) - 0).toNat)[i]? with
      | none => rw [q] at hd; cases hd
      | some m =>
        rw [q] at hd
        cases hd
        have hm : m < due.length := by
          have := List.mem_range.mp (List.mem_of_getElem? q)
          omega
        exact ⟨_, .inl (turn m row[m] due[m] tt (List.getElem?_eq_getElem (by omega)) (List.getElem?_eq_getElem hm)), _, rfl⟩
  obtain ⟨tt, rfl⟩ := h4
  refine .inr ⟨tt, ?_⟩
  rw [x_cons (x_skip t1), x_cons (e3.trans e4)]
  exact x_one (x_ret rfl)
theorem kept_ok {row due : List D} (hl : row.length = due.length) (hz : due.length ≤ 1000000) (hs : ∀ (k : Nat) (d d' : D), row[k]? = some d → due[k]? = some d' → f20 [.fz d, .fz d'] = .ok (.fz (.bl true), [])) : f25 [.fz (.tup row), .fz (.lst due)] = .ok (.fz (.bl true), []) := by
  have := kept_loop (G := g25) (b := b25_0) hl hz fun k d d' tt h h' => by
    have a1 : ev g25 (.ix (.v 0) (.v 2)) [some (.fz (.tup row)), some (.fz (.lst due)), some (.fz (.int (0 + (k : Int))))] = .ok (.vw (.fz d)) := by
      show (match L2.atI (row.map O.fz) (0 + (k : Int)) with | some o => Rs.ok (Rv.vw o) | none => .bad) = _
      rw [atI_row h]
    have a2 : ev g25 (.ix (.v 1) (.v 2)) [some (.fz (.tup row)), some (.fz (.lst due)), some (.fz (.int (0 + (k : Int))))] = .ok (.vw (.fz d')) := by
      show (match L2.atI (due.map O.fz) (0 + (k : Int)) with | some o => Rs.ok (Rv.vw o) | none => .bad) = _
      rw [atI_row h']
    show Ml.execs g25 b25_0 [some (.fz (.tup row)), some (.fz (.lst due)), some (.fz (.int (0 + (k : Int))))] = _
    unfold b25_0
    exact x_one (x_skip (x_tnot (q := true) (x_te (x_call (x_es a1 (x_es a2 rfl)) rfl (hs k d d' h h')) rfl)))
  rcases this with h | ⟨tt, h⟩
  · exact run_ret (n := 3) h
  · exact run_ret (n := 3) h
theorem kept_rows_ok {row due : List D} (hl : row.length = due.length) (hz : due.length ≤ 1000000) (hs : ∀ (k : Nat) (d d' : D), row[k]? = some d → due[k]? = some d' → f25 [.fz d, .fz d'] = .ok (.fz (.bl true), [])) : f26 [.fz (.tup row), .fz (.lst due)] = .ok (.fz (.bl true), []) := by
  have := kept_loop (G := g26) (b := b26_0) hl hz fun k d d' tt h h' => by
    have a1 : ev g26 (.ix (.v 0) (.v 2)) [some (.fz (.tup row)), some (.fz (.lst due)), some (.fz (.int (0 + (k : Int))))] = .ok (.vw (.fz d)) := by
      show (match L2.atI (row.map O.fz) (0 + (k : Int)) with | some o => Rs.ok (Rv.vw o) | none => .bad) = _
      rw [atI_row h]
    have a2 : ev g26 (.ix (.v 1) (.v 2)) [some (.fz (.tup row)), some (.fz (.lst due)), some (.fz (.int (0 + (k : Int))))] = .ok (.vw (.fz d')) := by
      show (match L2.atI (due.map O.fz) (0 + (k : Int)) with | some o => Rs.ok (Rv.vw o) | none => .bad) = _
      rw [atI_row h']
    show Ml.execs g26 b26_0 [some (.fz (.tup row)), some (.fz (.lst due)), some (.fz (.int (0 + (k : Int))))] = _
    unfold b26_0
    exact x_one (x_skip (x_tnot (q := true) (x_te (x_call (x_es a1 (x_es a2 rfl)) rfl (hs k d d' h h')) rfl)))
  rcases this with h | ⟨tt, h⟩
  · exact run_ret (n := 3) h
  · exact run_ret (n := 3) h
theorem kept_numbers_ok {xs : List Int} (hz : xs.length ≤ 1000000) : f27 [.fz (.tup (xs.map D.int)), .fz (.lst (xs.map D.int))] = .ok (.fz (.bl true), []) := by
  have := kept_loop (G := g27) (b := b27_0) (row := xs.map D.int) (due := xs.map D.int) rfl (by rw [List.length_map]; exact hz) fun k d d' tt h h' => by
    rw [h] at h'
    cases h'
    rw [List.getElem?_map] at h
    cases q : xs[k]? with
    | none => rw [q] at h; cases h
    | some x =>
      have h0 : (xs.map D.int)[k]? = some (.int x) := by rw [List.getElem?_map, q]; rfl
      have a1 : ev g27 (.ix (.v 0) (.v 2)) [some (.fz (.tup (xs.map D.int))), some (.fz (.lst (xs.map D.int))), some (.fz (.int (0 + (k : Int))))] = .ok (.vw (.fz (.int x))) := by
        show (match L2.atI ((xs.map D.int).map O.fz) (0 + (k : Int)) with | some o => Rs.ok (Rv.vw o) | none => .bad) = _
        rw [atI_row h0]
      have a2 : ev g27 (.ix (.v 1) (.v 2)) [some (.fz (.tup (xs.map D.int))), some (.fz (.lst (xs.map D.int))), some (.fz (.int (0 + (k : Int))))] = .ok (.vw (.fz (.int x))) := by
        show (match L2.atI ((xs.map D.int).map O.fz) (0 + (k : Int)) with | some o => Rs.ok (Rv.vw o) | none => .bad) = _
        rw [atI_row h0]
      have t : et g27 (.o2 .ne (.ix (.v 0) (.v 2)) (.ix (.v 1) (.v 2))) [some (.fz (.tup (xs.map D.int))), some (.fz (.lst (xs.map D.int))), some (.fz (.int (0 + (k : Int))))] = .ok false := by
        have := x_t2 (op := .ne) a1 a2 x_nei
        rw [decide_eq_true rfl] at this
        exact this
      show Ml.execs g27 b27_0 [some (.fz (.tup (xs.map D.int))), some (.fz (.lst (xs.map D.int))), some (.fz (.int (0 + (k : Int))))] = _
      unfold b27_0
      exact x_one (x_skip (x_tor (x_tnot (q := true) (x_te (x_call (x_es a1 rfl) rfl (int_is x)) rfl)) t))
  rcases this with h | ⟨tt, h⟩
  · exact run_ret (n := 3) h
  · exact run_ret (n := 3) h
theorem lcL_map {f : O → Rs (Option O)} {g : O → O} : ∀ {os : List O}, (∀ o ∈ os, f o = .ok (some (g o))) → lcL f os = .ok (os.map g)
  | [], _ => rfl
  | o :: os, h => by
    show (f o).then _ = _
    rw [h o List.mem_cons_self]
    show (lcL f os).then _ = _
    rw [lcL_map (os := os) fun p hp => h p (List.mem_cons_of_mem _ hp)]
    rfl
theorem fzs_map : ∀ {ds : List D}, fzs (ds.map .fz) = some ds
  | [] => rfl
  | d :: ds => by
    show (match fzs (ds.map .fz) with | some ds' => some (d :: ds') | none => none) = _
    rw [fzs_map]
theorem x_bi1 {G : Gl} {st : Ml.St} {b : Bi} {e : E} {x : Rv} {o : O} (h1 : ev G e st = .ok x) (h2 : bi b [x.o] = some o) : ev G (.bi b [e]) st = .ok (.my o) := by
  show ((ev G e st).then fun r => (Rs.ok []).then fun rs => Rs.ok (r :: rs)).then _ = _
  rw [h1]
  show lift (bi b [x.o]) = _
  rw [h2]
  rfl
theorem bi_tuple_lst {ds : List D} : bi .tuple [.lst (ds.map .fz)] = some (.fz (.tup ds)) := by
  show (match fzs (ds.map .fz) with | some ds => some (O.fz (.tup ds)) | none => none) = _
  rw [fzs_map]
theorem pairsO_map {row : List (Int × Int)} : pairsO row = (rowD row).map O.fz := by rw [List.map_map]; rfl
theorem bi_tuple {o : O} {ds : List D} (h : seq? o = some ds) : bi .tuple [o] = some (.fz (.tup ds)) := by
  show (match seq? o with | some ds => some (O.fz (.tup ds)) | none => none) = _
  rw [h]
theorem frozen_ok {a : O} {os : List O} {g : O → List D} (h1 : str? a = none) (h2 : items? a = some os) (h3 : ∀ o ∈ os, seq? o = some (g o)) (hz : os.length < sizeLine) : f0 [a] = .ok (.fz (.tup (os.map fun o => .tup (g o))), [a]) := by
  have e1 := lcL_map (f := lcF g0 (.bi .tuple [.v 1]) (.nm 1) [] [some a, none]) (g := fun o => O.fz (.tup (g o))) (os := os) fun o ho =>
    x_lcF (st' := [some a, some o]) rfl rfl (x_bi1 (x_v (n := 1) rfl) (bi_tuple (h3 o ho))) rfl
  have hw : walkO 0 [a] = some os := by
    show (match str? a with | some s => some (s.cps.toList.map fun c => O.fz (.str ⟨#[c]⟩)) | none => items? a) = _
    rw [h1]
    exact h2
  have e2 : ev g0 (.lc (.bi .tuple [.v 1]) (.nm 1) 0 [.v 0] []) [some a, none] = .ok (.my (.lst (os.map fun o => O.fz (.tup (g o))))) := x_lc (rs := [.vw a]) rfl hw e1 (by rw [List.length_map]; exact hz)
  have e3 : Ml.execs g0 c0 [some a, none] = .ret (.fz (.tup (os.map fun o => .tup (g o)))) [some a, none] := by
    unfold c0
    refine x_one (x_ret (x_bi1 e2 ?_))
    have := bi_tuple_lst (ds := os.map fun o => D.tup (g o))
    rw [List.map_map] at this
    exact this
  unfold f0 runF
  show (match Ml.execs g0 c0 [some a, none] with
    | .nx st => _
    | .ret o st => _
    | .exc c ds => _
    | _ => _ : Rs (O × List O)) = _
  rw [e3]
  rfl
theorem frozen2_ok {a : O} {os : List O} {g : O → List D} (h1 : str? a = none) (h2 : items? a = some os) (h3 : ∀ o ∈ os, seq? o = some (g o)) (hz : os.length < sizeLine) : f29 [a] = .ok (.fz (.tup (os.map fun o => .tup (g o))), []) := by
  have e1 := lcL_map (f := lcF g29 (.bi .tuple [.v 1]) (.nm 1) [] [some a, none]) (g := fun o => O.fz (.tup (g o))) (os := os) fun o ho =>
    x_lcF (st' := [some a, some o]) rfl rfl (x_bi1 (x_v (n := 1) rfl) (bi_tuple (h3 o ho))) rfl
  have hw : walkO 0 [a] = some os := by
    show (match str? a with | some s => some (s.cps.toList.map fun c => O.fz (.str ⟨#[c]⟩)) | none => items? a) = _
    rw [h1]
    exact h2
  have e2 : ev g29 (.lc (.bi .tuple [.v 1]) (.nm 1) 0 [.v 0] []) [some a, none] = .ok (.my (.lst (os.map fun o => O.fz (.tup (g o))))) := x_lc (rs := [.vw a]) rfl hw e1 (by rw [List.length_map]; exact hz)
  have e3 : Ml.execs g29 c29 [some a, none] = .ret (.fz (.tup (os.map fun o => .tup (g o)))) [some a, none] := by
    unfold c29
    refine x_one (x_ret (x_bi1 e2 ?_))
    have := bi_tuple_lst (ds := os.map fun o => D.tup (g o))
    rw [List.map_map] at this
    exact this
  unfold f29 runF
  show (match Ml.execs g29 c29 [some a, none] with
    | .nx st => _
    | .ret o st => _
    | .exc c ds => _
    | _ => _ : Rs (O × List O)) = _
  rw [e3]
  rfl
theorem bi_list {o : O} {ds : List D} (h : seq? o = some ds) : bi .list [o] = some (.lst (ds.map .fz)) := by
  show (match seq? o with | some ds => some (O.lst (ds.map .fz)) | none => none) = _
  rw [h]
theorem copied_ok {a : O} {os : List O} {g : O → List D} (h1 : str? a = none) (h2 : items? a = some os) (h3 : ∀ o ∈ os, seq? o = some (g o)) (hz : os.length < sizeLine) : f28 [a] = .ok (.lst (os.map fun o => .lst ((g o).map .fz)), []) := by
  have e1 := lcL_map (f := lcF g28 (.bi .list [.v 1]) (.nm 1) [] [some a, none]) (g := fun o => O.lst ((g o).map .fz)) (os := os) fun o ho =>
    x_lcF (st' := [some a, some o]) rfl rfl (x_bi1 (x_v (n := 1) rfl) (bi_list (h3 o ho))) rfl
  have hw : walkO 0 [a] = some os := by
    show (match str? a with | some s => some (s.cps.toList.map fun c => O.fz (.str ⟨#[c]⟩)) | none => items? a) = _
    rw [h1]
    exact h2
  have e2 : ev g28 (.lc (.bi .list [.v 1]) (.nm 1) 0 [.v 0] []) [some a, none] = .ok (.my (.lst (os.map fun o => O.lst ((g o).map .fz)))) := x_lc (rs := [.vw a]) rfl hw e1 (by rw [List.length_map]; exact hz)
  refine run_ret (n := 2) (st := [some a, none]) ?_
  show Ml.execs g28 c28 [some a, none] = _
  unfold c28
  exact x_one (x_ret e2)
theorem appL_ok {d : D} : ∀ {ls : List (List O)}, (∀ l ∈ ls, l.length < sizeLine) → appL d (ls.map .lst) = some ((ls.map fun l => l ++ [.fz d]).map .lst)
  | [], _ => rfl
  | l :: ls, h => by
    show (match (if l.length < sizeLine then some (O.lst (l ++ [.fz d])) else none), appL d (ls.map .lst) with | some p, some ps => some (p :: ps) | _, _ => none) = _
    rw [if_pos (h l List.mem_cons_self), appL_ok fun x hx => h x (List.mem_cons_of_mem _ hx)]
    rfl
theorem spoil_ok {ls : List (List O)} (h : ∀ l ∈ ls, l.length < sizeLine) (hz : ls.length < sizeLine) : ∃ o, f30 [.lst (ls.map .lst)] = .ok (.fz .non, [o]) := by
  have e1 : Ml.exec g30 (.each 0 1 (.tup [.k (.int 1), .k (.int 1)])) [some (.lst (ls.map .lst)), none] = .nx [some (.lst ((ls.map fun l => l ++ [O.fz (.tup [.int 1, .int 1])]).map .lst)), none] := by
    show opt (appL (.tup [.int 1, .int 1]) (ls.map .lst)) _ = _
    rw [appL_ok h]
    rfl
  have e2 : Ml.exec g30 (.mut 0 [] .app [.lst []]) [some (.lst ((ls.map fun l => l ++ [O.fz (.tup [.int 1, .int 1])]).map .lst)), none] = .nx [some (.lst ((ls.map fun l => l ++ [O.fz (.tup [.int 1, .int 1])]).map .lst ++ [.lst []])), none] :=
    x_app rfl (x := .my (.lst [])) rfl rfl (by rw [List.length_map, List.length_map]; exact hz)
  have e3 : Ml.execs g30 c30 [some (.lst (ls.map .lst)), none] = .nx [some (.lst ((ls.map fun l => l ++ [O.fz (.tup [.int 1, .int 1])]).map .lst ++ [.lst []])), none] := by
    unfold c30
    rw [x_cons e1]
    exact x_one e2
  refine ⟨.lst ((ls.map fun l => l ++ [O.fz (.tup [.int 1, .int 1])]).map .lst ++ [.lst []]), ?_⟩
  unfold f30 runF
  show (match Ml.execs g30 c30 [some (.lst (ls.map .lst)), none] with
    | .nx st => _
    | .ret o st => _
    | .exc c ds => _
    | _ => _ : Rs (O × List O)) = _
  rw [e3]
  rfl
theorem x_setf {G : Gl} {st : Ml.St} {n f c : Nat} {e : E} {x : Rv} {o : O} {ns : List Nat} {os : List O} (h1 : ev G e st = .ok x) (h2 : x.toO = some o) (h3 : st[n]? = some (some (.ins c ns os))) (h4 : okF G.fl c f ∧ ns.length = os.length ∧ ns.length < 999) :
    Ml.exec G (.setf n f e) st = .nx (st.set n (some (.ins c (putN f o ns os).1 (putN f o ns os).2))) := by
  show (ev G e st).out _ = _
  rw [h1]
  show opt x.toO _ = _
  rw [h2]
  show (match st[n]? with
    | some (some (.ins c ns os)) => if okF G.fl c f ∧ ns.length = os.length ∧ ns.length < 999 then .nx (st.set n (some (.ins c (putN f o ns os).1 (putN f o ns os).2))) else .bad
    | _ => .bad : Out) = _
  rw [h3]
  show (if okF G.fl c f ∧ ns.length = os.length ∧ ns.length < 999 then _ else _) = _
  rw [if_pos h4]
theorem x_setC {G : Gl} {st st' : Ml.St} {n f c : Nat} {cl : Cl} {as : List Ag} {o : O} {ns : List Nat} {os : List O} (h1 : callA G cl as st = .ok (o, st')) (h3 : st'[n]? = some (some (.ins c ns os))) (h4 : okF G.fl c f ∧ ns.length = os.length ∧ ns.length < 999) :
    Ml.exec G (.setC n f cl as) st = .nx (st'.set n (some (.ins c (putN f o ns os).1 (putN f o ns os).2))) := by
  show (callA G cl as st).out _ = _
  rw [h1]
  show (match st'[n]? with
    | some (some (.ins c ns os)) => if okF G.fl c f ∧ ns.length = os.length ∧ ns.length < 999 then .nx (st'.set n (some (.ins c (putN f o ns os).1 (putN f o ns os).2))) else .bad
    | _ => .bad : Out) = _
  rw [h3]
  show (if okF G.fl c f ∧ ns.length = os.length ∧ ns.length < 999 then _ else _) = _
  rw [if_pos h4]
theorem call_frozen {G : Gl} {st : Ml.St} {n : Nat} {a r : O} (h1 : st[n]? = some (some a)) (h2 : G.fs 0 [a] = .ok (r, [a])) : callA G (.fn 0) [.r n] st = .ok (r, st.set n (some a)) := by
  have e : evA G [.r n] st = .ok [a] := by
    show (match st[n]? with | some (some o) => (Rs.ok []).then fun os => Rs.ok (o :: os) | _ => .bad : Rs (List O)) = _
    rw [h1]
    rfl
  unfold callA
  rw [e]
  show (G.fs 0 [a]).then _ = _
  rw [h2]
  rfl
theorem clearing1_ok {p s t : O} {P Q : List D} {os : List O} {g : O → List D} (hp : seq? p = some P) (h1 : str? s = none) (h2 : items? s = some os) (h3 : ∀ o ∈ os, seq? o = some (g o)) (hz : os.length < sizeLine) (ht : seq? t = some Q) :
    f1 [.ins 3 [] [], p, s, t] = .ok (.fz .non, [.ins 3 [3, 1, 2] [.fz (.tup P), .fz (.tup (os.map fun o => .tup (g o))), .fz (.tup Q)], p, s, t]) := by
  have e1 : Ml.exec g1 (.setf 0 3 (.bi .tuple [.v 1])) [some (.ins 3 [] []), some p, some s, some t] = .nx [some (.ins 3 [3] [.fz (.tup P)]), some p, some s, some t] := x_setf (x_bi1 (x_v (n := 1) rfl) (bi_tuple hp)) rfl (c := 3) (ns := []) (os := []) rfl ⟨rfl, rfl, by decide⟩
  have e2 : Ml.exec g1 (.setC 0 1 (.fn 0) [.r 2]) [some (.ins 3 [3] [.fz (.tup P)]), some p, some s, some t] = .nx [some (.ins 3 [3, 1] [.fz (.tup P), .fz (.tup (os.map fun o => .tup (g o)))]), some p, some s, some t] :=
    x_setC (st' := [some (.ins 3 [3] [.fz (.tup P)]), some p, some s, some t]) (n := 0) (f := 1) (o := .fz (.tup (os.map fun o => .tup (g o)))) (c := 3) (ns := [3]) (os := [.fz (.tup P)]) (call_frozen rfl (frozen_ok h1 h2 h3 hz)) rfl ⟨rfl, rfl, by decide⟩
  have e3 : Ml.exec g1 (.setf 0 2 (.bi .tuple [.v 3])) [some (.ins 3 [3, 1] [.fz (.tup P), .fz (.tup (os.map fun o => .tup (g o)))]), some p, some s, some t] = .nx [some (.ins 3 [3, 1, 2] [.fz (.tup P), .fz (.tup (os.map fun o => .tup (g o))), .fz (.tup Q)]), some p, some s, some t] :=
    x_setf (x_bi1 (x_v (n := 3) rfl) (bi_tuple ht)) rfl (c := 3) (ns := [3, 1]) (os := [.fz (.tup P), .fz (.tup (os.map fun o => .tup (g o)))]) rfl ⟨rfl, rfl, by decide⟩
  have e4 : Ml.execs g1 c1 [some (.ins 3 [] []), some p, some s, some t] = .nx [some (.ins 3 [3, 1, 2] [.fz (.tup P), .fz (.tup (os.map fun o => .tup (g o))), .fz (.tup Q)]), some p, some s, some t] := by
    unfold c1
    rw [x_cons e1, x_cons e2]
    exact x_one e3
  unfold f1 runF
  show (match Ml.execs g1 c1 [some (.ins 3 [] []), some p, some s, some t] with
    | .nx st => _
    | .ret o st => _
    | .exc c ds => _
    | _ => _ : Rs (O × List O)) = _
  rw [e4]
  rfl
theorem clearing4_ok {p s t : O} {P Q : List D} {os : List O} {g : O → List D} (hp : seq? p = some P) (h1 : str? s = none) (h2 : items? s = some os) (h3 : ∀ o ∈ os, seq? o = some (g o)) (hz : os.length < sizeLine) (ht : seq? t = some Q) :
    f4 [.ins 3 [] [], p, s, t] = .ok (.fz .non, [.ins 3 [3, 1, 2] [.fz (.tup P), .fz (.tup (os.map fun o => .tup (g o))), .fz (.tup Q)]]) := by
  have e1 : Ml.exec g4 (.setf 0 3 (.bi .tuple [.v 1])) [some (.ins 3 [] []), some p, some s, some t] = .nx [some (.ins 3 [3] [.fz (.tup P)]), some p, some s, some t] := x_setf (x_bi1 (x_v (n := 1) rfl) (bi_tuple hp)) rfl (c := 3) (ns := []) (os := []) rfl ⟨rfl, rfl, by decide⟩
  have e2 : Ml.exec g4 (.setC 0 1 (.fn 0) [.r 2]) [some (.ins 3 [3] [.fz (.tup P)]), some p, some s, some t] = .nx [some (.ins 3 [3, 1] [.fz (.tup P), .fz (.tup (os.map fun o => .tup (g o)))]), some p, some s, some t] :=
    x_setC (st' := [some (.ins 3 [3] [.fz (.tup P)]), some p, some s, some t]) (n := 0) (f := 1) (o := .fz (.tup (os.map fun o => .tup (g o)))) (c := 3) (ns := [3]) (os := [.fz (.tup P)]) (call_frozen rfl (frozen_ok h1 h2 h3 hz)) rfl ⟨rfl, rfl, by decide⟩
  have e3 : Ml.exec g4 (.setf 0 2 (.bi .tuple [.v 3])) [some (.ins 3 [3, 1] [.fz (.tup P), .fz (.tup (os.map fun o => .tup (g o)))]), some p, some s, some t] = .nx [some (.ins 3 [3, 1, 2] [.fz (.tup P), .fz (.tup (os.map fun o => .tup (g o))), .fz (.tup Q)]), some p, some s, some t] :=
    x_setf (x_bi1 (x_v (n := 3) rfl) (bi_tuple ht)) rfl (c := 3) (ns := [3, 1]) (os := [.fz (.tup P), .fz (.tup (os.map fun o => .tup (g o)))]) rfl ⟨rfl, rfl, by decide⟩
  have e4 : Ml.execs g4 c4 [some (.ins 3 [] []), some p, some s, some t] = .nx [some (.ins 3 [3, 1, 2] [.fz (.tup P), .fz (.tup (os.map fun o => .tup (g o))), .fz (.tup Q)]), some p, some s, some t] := by
    unfold c4
    rw [x_cons e1, x_cons e2]
    exact x_one e3
  unfold f4 runF
  show (match Ml.execs g4 c4 [some (.ins 3 [] []), some p, some s, some t] with
    | .nx st => _
    | .ret o st => _
    | .exc c ds => _
    | _ => _ : Rs (O × List O)) = _
  rw [e4]
  rfl
end L93

set_option Elab.async false
set_option linter.all false
set_option maxRecDepth 100000
set_option maxHeartbeats 1000000
namespace L93
open PySem Ml
/-! ### rows -/
abbrev rowsD (rows : List (List (Int × Int))) : List D := rows.map fun r => D.lst (rowD r)
abbrev rowsT (rows : List (List (Int × Int))) : List D := rows.map fun r => D.tup (rowD r)
abbrev intsD' (xs : List Int) : List D := xs.map D.int
def gS (o : O) : List D := (seq? o).getD []
theorem ds_pairsO (r : List (Int × Int)) : O.ds (pairsO r) = rowD r := by rw [pairsO_map, ds_fz]
theorem ds_rowsO (rows : List (List (Int × Int))) : O.ds (rowsO rows) = rowsD rows := by
  rw [O.ds_map, List.map_map]
  refine List.map_congr_left fun r _ => ?_
  show D.lst (O.ds (pairsO r)) = _
  rw [ds_pairsO]
theorem ds_intsO (xs : List Int) : O.ds (intsO xs) = intsD' xs := by rw [intsO_map, ds_fz]
theorem seq_pairsO {r : List (Int × Int)} : seq? (.lst (pairsO r)) = some (rowD r) := by
  show fzs (pairsO r) = _
  rw [pairsO_map, fzs_map]
theorem seq_intsO {r : List Int} : seq? (.lst (intsO r)) = some (intsD' r) := by
  show fzs (intsO r) = _
  rw [intsO_map, fzs_map]
theorem gS_own {rows : List (List (Int × Int))} : ∀ o ∈ rowsO rows, seq? o = some (gS o) := fun o h => by
  obtain ⟨r, _, rfl⟩ := List.mem_map.mp h
  unfold gS
  rw [seq_pairsO]
  rfl
theorem gS_lst {rows : List (List (Int × Int))} : ∀ o ∈ (rowsD rows).map O.fz, seq? o = some (gS o) := fun o h => by
  obtain ⟨d, hd, rfl⟩ := List.mem_map.mp h
  obtain ⟨r, _, rfl⟩ := List.mem_map.mp hd
  rfl
theorem gS_tup {rows : List (List (Int × Int))} : ∀ o ∈ (rowsT rows).map O.fz, seq? o = some (gS o) := fun o h => by
  obtain ⟨d, hd, rfl⟩ := List.mem_map.mp h
  obtain ⟨r, _, rfl⟩ := List.mem_map.mp hd
  rfl
theorem own_tup {rows : List (List (Int × Int))} : (rowsO rows).map (fun o => D.tup (gS o)) = rowsT rows := by
  rw [List.map_map]
  refine List.map_congr_left fun r _ => ?_
  show D.tup (gS (.lst (pairsO r))) = _
  unfold gS
  rw [seq_pairsO]
  rfl
theorem lst_tup {rows : List (List (Int × Int))} : ((rowsD rows).map O.fz).map (fun o => D.tup (gS o)) = rowsT rows := by
  rw [List.map_map, List.map_map]
  rfl
theorem tup_tup {rows : List (List (Int × Int))} : ((rowsT rows).map O.fz).map (fun o => D.tup (gS o)) = rowsT rows := by
  rw [List.map_map, List.map_map]
  rfl
theorem lst_own {rows : List (List (Int × Int))} : ((rowsD rows).map O.fz).map (fun o => O.lst ((gS o).map .fz)) = rowsO rows := by
  rw [List.map_map, List.map_map]
  refine List.map_congr_left fun r _ => ?_
  show O.lst ((rowD r).map .fz) = O.lst (pairsO r)
  rw [pairsO_map]
/-! ### equality -/
def Flat (k : Nat) (d : D) : Prop := d.plain = true ∧ d.py.canLay0 = true ∧ d.py.depth ≤ k
theorem flats {k : Nat} : ∀ {ds : List D}, (∀ d ∈ ds, Flat k d) → D.plains ds = true ∧ PyData.canLayAll0 (D.pys ds) = true ∧ PyData.depthAll (D.pys ds) ≤ k
  | [], _ => ⟨rfl, rfl, by unfold D.pys PyData.depthAll; omega⟩
  | d :: ds, h => by
    obtain ⟨a, b, c⟩ := h d List.mem_cons_self
    obtain ⟨a', b', c'⟩ := flats (ds := ds) fun x hx => h x (List.mem_cons_of_mem _ hx)
    refine ⟨?_, ?_, ?_⟩
    · show (d.plain && D.plains ds) = true
      rw [a, a']
      rfl
    · show (d.py.canLay0 && PyData.canLayAll0 (D.pys ds)) = true
      rw [b, b']
      rfl
    · show max d.py.depth (PyData.depthAll (D.pys ds)) ≤ k
      omega
theorem Flat.lst {k : Nat} {ds : List D} (h : ∀ d ∈ ds, Flat k d) : Flat (k + 1) (.lst ds) := by
  obtain ⟨a, b, c⟩ := flats h
  exact ⟨a, b, by show PyData.depthAll (D.pys ds) + 1 ≤ k + 1; omega⟩
theorem Flat.tup {k : Nat} {ds : List D} (h : ∀ d ∈ ds, Flat k d) : Flat (k + 1) (.tup ds) := by
  obtain ⟨a, b, c⟩ := flats h
  exact ⟨a, b, by show PyData.depthAll (D.pys ds) + 1 ≤ k + 1; omega⟩
theorem Flat.int {i : Int} : Flat 0 (.int i) := ⟨rfl, rfl, Nat.le_refl _⟩
theorem Flat.eok {k : Nat} {d : D} (h : Flat k d) (hk : k ≤ 64) : d.eok = true := by
  unfold D.eok SeqAt.shaped
  rw [h.1, h.2.1]
  show decide (d.py.depth ≤ 64) = true
  exact decide_eq_true (Nat.le_trans h.2.2 hk)
theorem Flat.pair {a b : Int} : Flat 1 (pairD a b) := Flat.tup fun d h => by
  rcases List.mem_cons.mp h with rfl | h
  · exact Flat.int
  · rw [List.mem_singleton.mp h]; exact Flat.int
theorem Flat.row {r : List (Int × Int)} : Flat 2 (.lst (rowD r)) := Flat.lst fun d h => by
  obtain ⟨p, _, rfl⟩ := List.mem_map.mp h
  exact Flat.pair
theorem Flat.rows {rs : List (List (Int × Int))} : Flat 3 (.lst (rowsD rs)) := Flat.lst fun d h => by
  obtain ⟨p, _, rfl⟩ := List.mem_map.mp h
  exact Flat.row
theorem Flat.ints {xs : List Int} : Flat 1 (.lst (intsD' xs)) := Flat.lst fun d h => by
  obtain ⟨p, _, rfl⟩ := List.mem_map.mp h
  exact Flat.int
theorem eok_lay {d : D} (h : d.eok = true) : d.py.canLay0 = true := by
  unfold D.eok SeqAt.shaped at h
  simp only [Bool.and_eq_true] at h
  exact h.2.1
theorem ne_self {a b : O} {d : D} (ha : a.d = d) (hb : b.d = d) (h : d.eok = true) : op2 .ne a b = some (.fz (.bl false)) := by
  show (if a.d.eok && b.d.eok then some (O.fz (.bl (if true then !a.d.eqv b.d else a.d.eqv b.d))) else none) = _
  rw [ha, hb, h]
  show some (O.fz (.bl (!D.eqv d d))) = _
  unfold D.eqv
  rw [SeqAt.eqv_refl d.py (eok_lay h)]
  rfl
theorem x_eqb {i j : Int} {b : Bool} (h : decide (i = j) = b) : op2 .eq (.fz (.int i)) (.fz (.int j)) = some (.fz (.bl b)) := by
  rw [← h]
  exact x_eqi
theorem x_ltb {i j : Int} {b : Bool} (h : decide (i < j) = b) : op2 .lt (.fz (.int i)) (.fz (.int j)) = some (.fz (.bl b)) := by
  rw [← h]
  exact x_lt
/-! ### steps -/
section
variable {G : Gl} {st st' : Ml.St} {o p : O} {a b : E} {x y : Rv}
theorem x_and (h1 : ev G a st = .ok (.my (.fz (.bl true)))) (h2 : ev G b st = .ok y) : ev G (.and a b) st = .ok y := by
  show (ev G a st).then _ = _
  rw [h1]
  exact h2
theorem x_fld {f : Nat} (h : ev G a st = .ok x) (h2 : fldO G.fl x.o f = some o) : ev G (.fld a f) st = .ok (.vw o) := by
  show (ev G a st).then _ = _
  rw [h]
  show (match fldO G.fl x.o f with | some o => Rs.ok (Rv.vw o) | none => .bad) = _
  rw [h2]
theorem x_callr {i : Nat} {fr : Bool} {c : Cl} {as : List Ag} (h : callA G c as st = .ok (o, st')) : Ml.exec G (.callr (some i) fr c as) st = .nx (st'.set i (some (if fr then .fz o.d else o))) := by
  show (callA G c as st).out _ = _
  rw [h]
  rfl
theorem x_calln {fr : Bool} {c : Cl} {as : List Ag} (h : callA G c as st = .ok (o, st')) : Ml.exec G (.callr none fr c as) st = .nx st' := by
  show (callA G c as st).out _ = _
  rw [h]
  rfl
theorem x_retC {c : Cl} {as : List Ag} (h : callA G c as st = .ok (o, st')) : Ml.exec G (.retC c as) st = .ret o st' := by
  show (callA G c as st).out _ = _
  rw [h]
  rfl
theorem call_mk {c f : Nat} {as : List Ag} {os os' : List O} (h1 : evA G as st = .ok os) (h2 : G.fs f (.ins c [] [] :: os) = .ok (.fz .non, o :: os')) (h3 : backA as os' st = some st') : callA G (.mk c f) as st = .ok (o, st') := by
  unfold callA
  rw [h1]
  show (G.fs f (.ins c [] [] :: os)).then _ = _
  rw [h2]
  show (match backA as os' st with | some st' => Rs.ok (o, st') | none => .bad) = _
  rw [h3]
theorem call_fn {f : Nat} {as : List Ag} {os os' : List O} (h1 : evA G as st = .ok os) (h2 : G.fs f os = .ok (o, os')) (h3 : backA as os' st = some st') : callA G (.fn f) as st = .ok (o, st') := by
  unfold callA
  rw [h1]
  show (G.fs f os).then _ = _
  rw [h2]
  show (match backA as os' st with | some st' => Rs.ok (o, st') | none => .bad) = _
  rw [h3]
theorem call_kw {c m : Nat} {κ : Kw} {as : List Ag} {os os' : List O} (h0 : G.kw[m]? = some κ) (h1 : evA G as st = .ok os) (h2 : G.fs κ.f (Ml.pick κ.pl (.ins c [] [] :: (os ++ κ.ds.map .fz))) = .ok (.fz .non, o :: os')) (h3 : backA as os' st = some st') : callA G (.kw c m) as st = .ok (o, st') := by
  unfold callA
  rw [h1]
  show (match G.kw[m]? with
    | none => Rs.bad
    | some κ => _) = _
  rw [h0]
  show (G.fs κ.f (Ml.pick κ.pl (.ins c [] [] :: (os ++ κ.ds.map .fz)))).then _ = _
  rw [h2]
  show (match backA as os' st with | some st' => Rs.ok (o, st') | none => .bad) = _
  rw [h3]
theorem call_kw' {c m : Nat} {κ : Kw} {as : List Ag} {os os' args : List O} {g : List O → Rs (O × List O)} (h0 : G.kw[m]? = some κ) (h1 : evA G as st = .ok os) (ha : Ml.pick κ.pl (.ins c [] [] :: (os ++ κ.ds.map .fz)) = args) (hg : ∀ os, G.fs κ.f os = g os) (h2 : g args = .ok (.fz .non, o :: os')) (h3 : backA as os' st = some st') : callA G (.kw c m) as st = .ok (o, st') :=
  call_kw h0 h1 (by rw [ha, hg]; exact h2) h3
theorem call_fn' {f : Nat} {as : List Ag} {os os' : List O} {g : List O → Rs (O × List O)} (h1 : evA G as st = .ok os) (hg : ∀ os, G.fs f os = g os) (h2 : g os = .ok (o, os')) (h3 : backA as os' st = some st') : callA G (.fn f) as st = .ok (o, st') := call_fn h1 ((hg _).trans h2) h3
theorem x_ins {n : Nat} {k e : E} {os : List O} (h0 : st[n]? = some (some (.lst os))) (hk : ev G k st = .ok (.my (.fz (.int 0)))) (h : ev G e st = .ok x) (h2 : x.toO = some o) (h3 : os.length < sizeLine) : Ml.exec G (.mut n [] .ins [k, e]) st = .nx (st.set n (some (.lst (o :: os)))) := by
  show (match st[n]? with
    | some (some root) => (evs G [] st).calm.out fun rs => opt (pInts rs) fun ks => match getP ks root with
      | some (.lst os) => (evs G [k, e] st).out fun ra => opt (toOs ra) fun as => opt (muO .ins os as) fun q => .nx (st.set n (some (setP ks root (.lst q.1))))
      | _ => .bad
    | _ => .bad : Out) = _
  rw [h0]
  show (evs G [k, e] st).out _ = _
  rw [x_es hk (x_es h rfl)]
  show opt (toOs [.my (.fz (.int 0)), x]) _ = _
  have e1 : toOs [.my (.fz (.int 0)), x] = some [.fz (.int 0), o] := by
    unfold toOs toOs
    rw [h2]
    rfl
  rw [e1]
  show opt (if os.length < sizeLine ∧ (0 : Int) ≤ 0 ∧ (0 : Int) < 2 ^ 63 then _ else _) _ = _
  rw [if_pos ⟨h3, by decide, by decide⟩]
  rfl
theorem x_seti {n : Nat} {j e : E} {k : Int} {m : Nat} {os : List O} {xj : Rv} (h : ev G e st = .ok x) (h2 : x.toO = some o) (h0 : st[n]? = some (some (.lst os))) (hj : ev G j st = .ok xj) (hi : int? xj.o = some k) (hm : L2.ixN os.length k = some m) : Ml.exec G (.seti n [] j e) st = .nx (st.set n (some (.lst (os.set m o)))) := by
  show (ev G e st).out _ = _
  rw [h]
  show opt x.toO _ = _
  rw [h2]
  show (match st[n]? with
    | some (some root) => (evs G [] st).calm.out fun rs => opt (pInts rs) fun ks => match getP ks root with
      | some (.lst os) => (ev G j st).out fun rj => opt (int? rj.o) fun k => opt (L2.ixN os.length k) fun m => .nx (st.set n (some (setP ks root (.lst (os.set m o)))))
      | _ => .bad
    | _ => .bad : Out) = _
  rw [h0]
  show (ev G j st).out _ = _
  rw [hj]
  show opt (int? xj.o) _ = _
  rw [hi]
  show opt (L2.ixN os.length k) _ = _
  rw [hm]
  rfl
end
/-! ### what is kept -/
structure Sm (rows : List (List (Int × Int))) : Prop where
  n : rows.length ≤ 5
  r : ∀ r ∈ rows, r.length ≤ 5
theorem Sm.nil : Sm [] := ⟨by simp, fun _ z => nomatch z⟩
theorem same_at {row : List (Int × Int)} : ∀ (k : Nat) (d d' : D), (rowD row)[k]? = some d → (rowD row)[k]? = some d' → f20 [.fz d, .fz d'] = .ok (.fz (.bl true), []) := fun k d d' h h' => by
  rw [h] at h'
  cases h'
  rw [List.getElem?_map] at h
  cases q : row[k]? with
  | none => rw [q] at h; cases h
  | some p => rw [q] at h; cases h; exact same_ok p.1 p.2
theorem kept {row : List (Int × Int)} (h : row.length ≤ 5) : f25 [.fz (.tup (rowD row)), .fz (.lst (rowD row))] = .ok (.fz (.bl true), []) := kept_ok rfl (by rw [List.length_map]; omega) same_at
theorem keptR {rows : List (List (Int × Int))} (h : Sm rows) : f26 [.fz (.tup (rowsT rows)), .fz (.lst (rowsD rows))] = .ok (.fz (.bl true), []) :=
  kept_rows_ok (by rw [List.length_map, List.length_map]) (by rw [List.length_map]; have := h.n; omega) fun k d d' h1 h2 => by
    rw [List.getElem?_map] at h1 h2
    cases q : rows[k]? with
    | none => rw [q] at h1; cases h1
    | some r =>
      rw [q] at h1 h2
      cases h1
      cases h2
      exact kept (h.r r (List.mem_of_getElem? q))
theorem keptN {xs : List Int} (h : xs.length ≤ 5) : f27 [.fz (.tup (intsD' xs)), .fz (.lst (intsD' xs))] = .ok (.fz (.bl true), []) := kept_numbers_ok (by omega)
theorem len5 {α β : Type} {xs : List α} {f : α → β} (h : xs.length ≤ 5) : (xs.map f).length < sizeLine := by
  have hs : sizeLine = 16777216 := by decide
  rw [List.length_map]
  omega
theorem len55 {α β γ : Type} {xs : List α} {f : α → β} {g : β → γ} (h : xs.length ≤ 5) : ((xs.map f).map g).length < sizeLine := by
  have hs : sizeLine = 16777216 := by decide
  rw [List.length_map, List.length_map]
  omega
theorem spoiled {rows : List (List (Int × Int))} (h : Sm rows) : ∃ o, f30 [.lst (rowsO rows)] = .ok (.fz .non, [o]) := by
  have := spoil_ok (ls := rows.map pairsO) (fun l hl => by
    obtain ⟨r, hr, rfl⟩ := List.mem_map.mp hl
    exact len5 (h.r r hr)) (len5 h.n)
  rw [List.map_map] at this
  exact this
theorem copied {rows : List (List (Int × Int))} (h : Sm rows) : f28 [.fz (.lst (rowsD rows))] = .ok (.lst (rowsO rows), []) := by
  have := copied_ok (a := .fz (.lst (rowsD rows))) rfl rfl gS_lst (len55 h.n)
  rw [lst_own] at this
  exact this
theorem frozen29 {rows : List (List (Int × Int))} (h : Sm rows) : f29 [.fz (.lst (rowsD rows))] = .ok (.fz (.tup (rowsT rows)), []) := by
  have := frozen2_ok (a := .fz (.lst (rowsD rows))) rfl rfl gS_lst (len55 h.n)
  rw [lst_tup] at this
  exact this


/-- list(x) -/
theorem x_lst {G : Gl} {st : Ml.St} {n : Nat} {ds : List D} {os : List O} (h : st[n]? = some (some (.fz (.lst ds)))) (e : ds.map O.fz = os) : ev G (.bi .list [.v n]) st = .ok (.my (.lst os)) := by
  rw [← e]
  exact x_bi1 (x_v h) (bi_list rfl)
theorem x_tupl {G : Gl} {st : Ml.St} {e : E} {x : Rv} {ds : List D} (h : ev G e st = .ok x) (h2 : seq? x.o = some ds) : ev G (.bi .tuple [e]) st = .ok (.my (.fz (.tup ds))) := x_bi1 h (bi_tuple h2)
/-- the values of a call, slots that hold frozen things -/
theorem call1 {G : Gl} {st : Ml.St} {f : Nat} {es : List E} {rs : List Rv} {ds : List D} {o : O} (h1 : evs G es st = .ok rs) (h2 : toDs rs = some ds) (h3 : G.fs f (ds.map .fz) = .ok (o, [])) : ev G (.call f es) st = .ok (.my o) := x_call h1 h2 h3
def clr (p q t : List (Int × Int)) (s : List (List (Int × Int))) : D := .ins 3 [3, 1, 2] [.tup (rowD p), .tup (rowsT s), .tup (rowD t)]
theorem clr_right {p t : List (Int × Int)} {s : List (List (Int × Int))} (hp : p.length ≤ 5) (hs : Sm s) (ht : t.length ≤ 5) : f31 [.fz (clr p p t s), .fz (.lst (rowD p)), .fz (.lst (rowsD s)), .fz (.lst (rowD t))] = .ok (.fz (.bl true), []) := by
  refine run_ret (n := 4) (st := [some (.fz (clr p p t s)), some (.fz (.lst (rowD p))), some (.fz (.lst (rowsD s))), some (.fz (.lst (rowD t)))]) ?_
  show Ml.execs g31 c31 [some (.fz (clr p p t s)), some (.fz (.lst (rowD p))), some (.fz (.lst (rowsD s))), some (.fz (.lst (rowD t)))] = _
  unfold c31
  rw [x_cons (x_skip (x_tor (x_tnot (q := true) rfl) (x_tnot (q := true) (x_te (call1 (x_es (x_fld (x_v (n := 0) rfl) rfl) (x_es (x_v (n := 1) rfl) rfl)) rfl (kept hp)) rfl))))]
  exact x_one (x_ret (x_and (call1 (x_es (x_fld (x_v (n := 0) rfl) rfl) (x_es (x_v (n := 2) rfl) rfl)) rfl (keptR hs)) (call1 (x_es (x_fld (x_v (n := 0) rfl) rfl) (x_es (x_v (n := 3) rfl) rfl)) rfl (kept ht))))

theorem clearing_ok {p t : List (Int × Int)} {s : List (List (Int × Int))} (hp : p.length ≤ 5) (hs : Sm s) (ht : t.length ≤ 5) : f32 [.fz (.lst (rowD p)), .fz (.lst (rowsD s)), .fz (.lst (rowD t))] = .ok (.fz (.bl true), []) := by
  obtain ⟨o, ho⟩ := spoiled hs
  have m1 := clearing1_ok (p := .lst (pairsO p)) (s := .lst (rowsO s)) (t := .lst (pairsO t)) seq_pairsO rfl rfl gS_own (len5 hs.n) seq_pairsO
  rw [own_tup] at m1
  have m2 := clearing4_ok (p := .fz (.tup (rowD p))) (s := .fz (.tup (rowsT s))) (t := .fz (.tup (rowD t))) rfl rfl rfl gS_tup (len55 hs.n) rfl
  rw [tup_tup] at m2
  have e1 : Ml.exec g32 (.asg false (.nm 3) (.bi .list [.v 0])) [some (.fz (.lst (rowD p))), some (.fz (.lst (rowsD s))), some (.fz (.lst (rowD t))), none, none, none, none, none] = .nx [some (.fz (.lst (rowD p))), some (.fz (.lst (rowsD s))), some (.fz (.lst (rowD t))), some (.lst (pairsO p)), none, none, none, none] := x_set (x_lst rfl pairsO_map.symm) rfl
  have e2 : Ml.exec g32 (.asg false (.nm 4) (.call 28 [.v 1])) [some (.fz (.lst (rowD p))), some (.fz (.lst (rowsD s))), some (.fz (.lst (rowD t))), some (.lst (pairsO p)), none, none, none, none] = .nx [some (.fz (.lst (rowD p))), some (.fz (.lst (rowsD s))), some (.fz (.lst (rowD t))), some (.lst (pairsO p)), some (.lst (rowsO s)), none, none, none] := x_set (call1 (x_es (x_v (n := 1) rfl) rfl) rfl (copied hs)) rfl
  have e3 : Ml.exec g32 (.asg false (.nm 5) (.bi .list [.v 2])) [some (.fz (.lst (rowD p))), some (.fz (.lst (rowsD s))), some (.fz (.lst (rowD t))), some (.lst (pairsO p)), some (.lst (rowsO s)), none, none, none] = .nx [some (.fz (.lst (rowD p))), some (.fz (.lst (rowsD s))), some (.fz (.lst (rowD t))), some (.lst (pairsO p)), some (.lst (rowsO s)), some (.lst (pairsO t)), none, none] := x_set (x_lst rfl pairsO_map.symm) rfl
  have e4 : Ml.exec g32 (.callr (some 6) true (.mk 3 1) [.r 3, .r 4, .r 5]) [some (.fz (.lst (rowD p))), some (.fz (.lst (rowsD s))), some (.fz (.lst (rowD t))), some (.lst (pairsO p)), some (.lst (rowsO s)), some (.lst (pairsO t)), none, none] = .nx [some (.fz (.lst (rowD p))), some (.fz (.lst (rowsD s))), some (.fz (.lst (rowD t))), some (.lst (pairsO p)), some (.lst (rowsO s)), some (.lst (pairsO t)), some (.fz (clr p p t s)), none] := x_callr (i := 6) (o := .ins 3 [3, 1, 2] [.fz (.tup (rowD p)), .fz (.tup (rowsT s)), .fz (.tup (rowD t))]) (st' := [some (.fz (.lst (rowD p))), some (.fz (.lst (rowsD s))), some (.fz (.lst (rowD t))), some (.lst (pairsO p)), some (.lst (rowsO s)), some (.lst (pairsO t)), none, none]) (call_mk (os := [.lst (pairsO p), .lst (rowsO s), .lst (pairsO t)]) rfl m1 rfl)

  have t4 : et g32 (.or (.o2 .ne (.v 3) (.v 0)) (.or (.o2 .ne (.v 4) (.v 1)) (.o2 .ne (.v 5) (.v 2)))) [some (.fz (.lst (rowD p))), some (.fz (.lst (rowsD s))), some (.fz (.lst (rowD t))), some (.lst (pairsO p)), some (.lst (rowsO s)), some (.lst (pairsO t)), some (.fz (clr p p t s)), none] = .ok false :=
    x_tor (x_t2 (x_v (n := 3) rfl) (x_v (n := 0) rfl) (ne_self (d := .lst (rowD p)) (congrArg D.lst (ds_pairsO p)) rfl (Flat.row.eok (by decide))))
      (x_tor (x_t2 (x_v (n := 4) rfl) (x_v (n := 1) rfl) (ne_self (d := .lst (rowsD s)) (congrArg D.lst (ds_rowsO s)) rfl (Flat.rows.eok (by decide))))
        (x_t2 (x_v (n := 5) rfl) (x_v (n := 2) rfl) (ne_self (d := .lst (rowD t)) (congrArg D.lst (ds_pairsO t)) rfl (Flat.row.eok (by decide)))))
  have e5 : Ml.exec g32 (.mut 3 [] .app [.tup [.k (.int 7), .k (.int 1)]]) [some (.fz (.lst (rowD p))), some (.fz (.lst (rowsD s))), some (.fz (.lst (rowD t))), some (.lst (pairsO p)), some (.lst (rowsO s)), some (.lst (pairsO t)), some (.fz (clr p p t s)), none] = .nx [some (.fz (.lst (rowD p))), some (.fz (.lst (rowsD s))), some (.fz (.lst (rowD t))), some (.lst (pairsO p ++ [.fz (pairD 7 1)])), some (.lst (rowsO s)), some (.lst (pairsO t)), some (.fz (clr p p t s)), none] := x_app (os := pairsO p) (o := .fz (pairD 7 1)) rfl (x := .my (.fz (pairD 7 1))) rfl rfl (len5 hp)
  have e6 : Ml.exec g32 (.callr none true (.fn 30) [.r 4]) [some (.fz (.lst (rowD p))), some (.fz (.lst (rowsD s))), some (.fz (.lst (rowD t))), some (.lst (pairsO p ++ [.fz (pairD 7 1)])), some (.lst (rowsO s)), some (.lst (pairsO t)), some (.fz (clr p p t s)), none] = .nx [some (.fz (.lst (rowD p))), some (.fz (.lst (rowsD s))), some (.fz (.lst (rowD t))), some (.lst (pairsO p ++ [.fz (pairD 7 1)])), some (o), some (.lst (pairsO t)), some (.fz (clr p p t s)), none] := x_calln (call_fn rfl ho rfl)
  have e7 : Ml.exec g32 (.mut 5 [] .ins [.k (.int 0), .tup [.k (.int 7), .k (.int 1)]]) [some (.fz (.lst (rowD p))), some (.fz (.lst (rowsD s))), some (.fz (.lst (rowD t))), some (.lst (pairsO p ++ [.fz (pairD 7 1)])), some (o), some (.lst (pairsO t)), some (.fz (clr p p t s)), none] = .nx [some (.fz (.lst (rowD p))), some (.fz (.lst (rowsD s))), some (.fz (.lst (rowD t))), some (.lst (pairsO p ++ [.fz (pairD 7 1)])), some (o), some (.lst (.fz (pairD 7 1) :: pairsO t)), some (.fz (clr p p t s)), none] := x_ins (os := pairsO t) (o := .fz (pairD 7 1)) rfl rfl (x := .my (.fz (pairD 7 1))) rfl rfl (len5 ht)
  have e8 : Ml.exec g32 (.asg true (.nm 7) (.mk 3 4 [.bi .tuple [.v 0], .call 29 [.v 1], .bi .tuple [.v 2]])) [some (.fz (.lst (rowD p))), some (.fz (.lst (rowsD s))), some (.fz (.lst (rowD t))), some (.lst (pairsO p ++ [.fz (pairD 7 1)])), some (o), some (.lst (.fz (pairD 7 1) :: pairsO t)), some (.fz (clr p p t s)), none] = .nx [some (.fz (.lst (rowD p))), some (.fz (.lst (rowsD s))), some (.fz (.lst (rowD t))), some (.lst (pairsO p ++ [.fz (pairD 7 1)])), some (o), some (.lst (.fz (pairD 7 1) :: pairsO t)), some (.fz (clr p p t s)), some (.fz (clr p p t s))] := by
    have q : ev g32 (.mk 3 4 [.bi .tuple [.v 0], .call 29 [.v 1], .bi .tuple [.v 2]]) [some (.fz (.lst (rowD p))), some (.fz (.lst (rowsD s))), some (.fz (.lst (rowD t))), some (.lst (pairsO p ++ [.fz (pairD 7 1)])), some (o), some (.lst (.fz (pairD 7 1) :: pairsO t)), some (.fz (clr p p t s)), none] = .ok (.my (.ins 3 [3, 1, 2] [.fz (.tup (rowD p)), .fz (.tup (rowsT s)), .fz (.tup (rowD t))])) := by
      show (evs g32 [.bi .tuple [.v 0], .call 29 [.v 1], .bi .tuple [.v 2]] [some (.fz (.lst (rowD p))), some (.fz (.lst (rowsD s))), some (.fz (.lst (rowD t))), some (.lst (pairsO p ++ [.fz (pairD 7 1)])), some (o), some (.lst (.fz (pairD 7 1) :: pairsO t)), some (.fz (clr p p t s)), none]).then _ = _
      rw [x_es (x_tupl (x_v (n := 0) rfl) rfl) (x_es (call1 (x_es (x_v (n := 1) rfl) rfl) rfl (frozen29 hs)) (x_es (x_tupl (x_v (n := 2) rfl) rfl) rfl))]
      show (f4 [.ins 3 [] [], .fz (.tup (rowD p)), .fz (.tup (rowsT s)), .fz (.tup (rowD t))]).then _ = _
      rw [m2]
      rfl
    exact x_set q rfl
  refine run_ret (n := 8) (st := [some (.fz (.lst (rowD p))), some (.fz (.lst (rowsD s))), some (.fz (.lst (rowD t))), some (.lst (pairsO p ++ [.fz (pairD 7 1)])), some (o), some (.lst (.fz (pairD 7 1) :: pairsO t)), some (.fz (clr p p t s)), some (.fz (clr p p t s))]) ?_
  show Ml.execs g32 c32 [some (.fz (.lst (rowD p))), some (.fz (.lst (rowsD s))), some (.fz (.lst (rowD t))), none, none, none, none, none] = _
  unfold c32
  rw [x_cons e1, x_cons e2, x_cons e3, x_cons e4, x_cons (x_skip t4), x_cons e5, x_cons e6, x_cons e7, x_cons e8]
  rw [x_cons (x_skip (x_tnot (q := true) (x_te (call1 (x_es (x_v (n := 7) rfl) (x_es (x_v (n := 0) rfl) (x_es (x_v (n := 1) rfl) (x_es (x_v (n := 2) rfl) rfl)))) rfl (clr_right hp hs ht)) rfl)))]
  exact x_one (x_ret (call1 (x_es (x_v (n := 6) rfl) (x_es (x_v (n := 0) rfl) (x_es (x_v (n := 1) rfl) (x_es (x_v (n := 2) rfl) rfl)))) rfl (clr_right hp hs ht)))

theorem flow2_ok {a b : Int} {m : List (List (Int × Int))} {l r : List Int} (hm : Sm m) : f2 [.ins 1 [] [], .fz (pairD a b), .lst (rowsO m), .lst (intsO l), .lst (intsO r)] = .ok (.fz .non, [.ins 1 [7, 8, 5, 6] [.fz (pairD a b), .fz (.tup (rowsT m)), .fz (.tup (intsD' l)), .fz (.tup (intsD' r))], .lst (rowsO m), .lst (intsO l), .lst (intsO r)]) := by
  have fr := frozen_ok (a := .lst (rowsO m)) rfl rfl gS_own (len5 hm.n)
  rw [own_tup] at fr
  have e1 : Ml.exec g2 (.setf 0 7 (.v 1)) [some (.ins 1 [] []), some (.fz (pairD a b)), some (.lst (rowsO m)), some (.lst (intsO l)), some (.lst (intsO r))] = .nx [some (.ins 1 [7] [.fz (pairD a b)]), some (.fz (pairD a b)), some (.lst (rowsO m)), some (.lst (intsO l)), some (.lst (intsO r))] := x_setf (x_v (n := 1) rfl) rfl (c := 1) (ns := []) (os := []) rfl ⟨rfl, rfl, by decide⟩
  have e2 : Ml.exec g2 (.setC 0 8 (.fn 0) [.r 2]) [some (.ins 1 [7] [.fz (pairD a b)]), some (.fz (pairD a b)), some (.lst (rowsO m)), some (.lst (intsO l)), some (.lst (intsO r))] = .nx [some (.ins 1 [7, 8] [.fz (pairD a b), .fz (.tup (rowsT m))]), some (.fz (pairD a b)), some (.lst (rowsO m)), some (.lst (intsO l)), some (.lst (intsO r))] := x_setC (st' := [some (.ins 1 [7] [.fz (pairD a b)]), some (.fz (pairD a b)), some (.lst (rowsO m)), some (.lst (intsO l)), some (.lst (intsO r))]) (n := 0) (f := 8) (o := .fz (.tup (rowsT m))) (c := 1) (ns := [7]) (os := [.fz (pairD a b)]) (call_frozen rfl fr) rfl ⟨rfl, rfl, by decide⟩
  have e3 : Ml.exec g2 (.setf 0 5 (.bi .tuple [.v 3])) [some (.ins 1 [7, 8] [.fz (pairD a b), .fz (.tup (rowsT m))]), some (.fz (pairD a b)), some (.lst (rowsO m)), some (.lst (intsO l)), some (.lst (intsO r))] = .nx [some (.ins 1 [7, 8, 5] [.fz (pairD a b), .fz (.tup (rowsT m)), .fz (.tup (intsD' l))]), some (.fz (pairD a b)), some (.lst (rowsO m)), some (.lst (intsO l)), some (.lst (intsO r))] := x_setf (x_tupl (x_v (n := 3) rfl) seq_intsO) rfl (c := 1) (ns := [7, 8]) (os := [.fz (pairD a b), .fz (.tup (rowsT m))]) rfl ⟨rfl, rfl, by decide⟩
  have e4 : Ml.exec g2 (.setf 0 6 (.bi .tuple [.v 4])) [some (.ins 1 [7, 8, 5] [.fz (pairD a b), .fz (.tup (rowsT m)), .fz (.tup (intsD' l))]), some (.fz (pairD a b)), some (.lst (rowsO m)), some (.lst (intsO l)), some (.lst (intsO r))] = .nx [some (.ins 1 [7, 8, 5, 6] [.fz (pairD a b), .fz (.tup (rowsT m)), .fz (.tup (intsD' l)), .fz (.tup (intsD' r))]), some (.fz (pairD a b)), some (.lst (rowsO m)), some (.lst (intsO l)), some (.lst (intsO r))] := x_setf (x_tupl (x_v (n := 4) rfl) seq_intsO) rfl (c := 1) (ns := [7, 8, 5]) (os := [.fz (pairD a b), .fz (.tup (rowsT m)), .fz (.tup (intsD' l))]) rfl ⟨rfl, rfl, by decide⟩
  have e5 : Ml.execs g2 c2 [some (.ins 1 [] []), some (.fz (pairD a b)), some (.lst (rowsO m)), some (.lst (intsO l)), some (.lst (intsO r))] = .nx [some (.ins 1 [7, 8, 5, 6] [.fz (pairD a b), .fz (.tup (rowsT m)), .fz (.tup (intsD' l)), .fz (.tup (intsD' r))]), some (.fz (pairD a b)), some (.lst (rowsO m)), some (.lst (intsO l)), some (.lst (intsO r))] := by
    unfold c2
    rw [x_cons e1, x_cons e2, x_cons e3]
    exact x_one e4
  unfold f2 runF
  show (match Ml.execs g2 c2 [some (.ins 1 [] []), some (.fz (pairD a b)), some (.lst (rowsO m)), some (.lst (intsO l)), some (.lst (intsO r))] with
    | .nx st => _
    | .ret o st => _
    | .exc c ds => _
    | _ => _ : Rs (O × List O)) = _
  rw [e5]
  rfl

theorem flow_ok {a b : Int} {m : List (List (Int × Int))} {l r : List Int} (hm : Sm m) (hl : l.length ≤ 5) (hr : r.length ≤ 5) : f33 [.fz (pairD a b), .fz (.lst (rowsD m)), .fz (.lst (intsD' l)), .fz (.lst (intsD' r))] = .ok (.fz (.bl true), []) := by
  obtain ⟨o, ho⟩ := spoiled hm
  have e1 : Ml.exec g33 (.asg false (.nm 4) (.call 28 [.v 1])) [some (.fz (pairD a b)), some (.fz (.lst (rowsD m))), some (.fz (.lst (intsD' l))), some (.fz (.lst (intsD' r))), none, none, none, none] = .nx [some (.fz (pairD a b)), some (.fz (.lst (rowsD m))), some (.fz (.lst (intsD' l))), some (.fz (.lst (intsD' r))), some (.lst (rowsO m)), none, none, none] := x_set (call1 (x_es (x_v (n := 1) rfl) rfl) rfl (copied hm)) rfl
  have e2 : Ml.exec g33 (.asg false (.nm 5) (.bi .list [.v 2])) [some (.fz (pairD a b)), some (.fz (.lst (rowsD m))), some (.fz (.lst (intsD' l))), some (.fz (.lst (intsD' r))), some (.lst (rowsO m)), none, none, none] = .nx [some (.fz (pairD a b)), some (.fz (.lst (rowsD m))), some (.fz (.lst (intsD' l))), some (.fz (.lst (intsD' r))), some (.lst (rowsO m)), some (.lst (intsO l)), none, none] := x_set (x_lst rfl intsO_map.symm) rfl
  have e3 : Ml.exec g33 (.asg false (.nm 6) (.bi .list [.v 3])) [some (.fz (pairD a b)), some (.fz (.lst (rowsD m))), some (.fz (.lst (intsD' l))), some (.fz (.lst (intsD' r))), some (.lst (rowsO m)), some (.lst (intsO l)), none, none] = .nx [some (.fz (pairD a b)), some (.fz (.lst (rowsD m))), some (.fz (.lst (intsD' l))), some (.fz (.lst (intsD' r))), some (.lst (rowsO m)), some (.lst (intsO l)), some (.lst (intsO r)), none] := x_set (x_lst rfl intsO_map.symm) rfl
  have e4 : Ml.exec g33 (.callr (some 7) true (.mk 1 2) [.e (.v 0), .r 4, .r 5, .r 6]) [some (.fz (pairD a b)), some (.fz (.lst (rowsD m))), some (.fz (.lst (intsD' l))), some (.fz (.lst (intsD' r))), some (.lst (rowsO m)), some (.lst (intsO l)), some (.lst (intsO r)), none] = .nx [some (.fz (pairD a b)), some (.fz (.lst (rowsD m))), some (.fz (.lst (intsD' l))), some (.fz (.lst (intsD' r))), some (.lst (rowsO m)), some (.lst (intsO l)), some (.lst (intsO r)), some (.fz (.ins 1 [7, 8, 5, 6] [pairD a b, .tup (rowsT m), .tup (intsD' l), .tup (intsD' r)]))] := x_callr (i := 7) (o := .ins 1 [7, 8, 5, 6] [.fz (pairD a b), .fz (.tup (rowsT m)), .fz (.tup (intsD' l)), .fz (.tup (intsD' r))]) (st' := [some (.fz (pairD a b)), some (.fz (.lst (rowsD m))), some (.fz (.lst (intsD' l))), some (.fz (.lst (intsD' r))), some (.lst (rowsO m)), some (.lst (intsO l)), some (.lst (intsO r)), none]) (call_mk (os := [.fz (pairD a b), .lst (rowsO m), .lst (intsO l), .lst (intsO r)]) rfl (flow2_ok hm) rfl)
  have t4 : et g33 (.or (.o2 .ne (.v 4) (.v 1)) (.or (.o2 .ne (.v 5) (.v 2)) (.o2 .ne (.v 6) (.v 3)))) [some (.fz (pairD a b)), some (.fz (.lst (rowsD m))), some (.fz (.lst (intsD' l))), some (.fz (.lst (intsD' r))), some (.lst (rowsO m)), some (.lst (intsO l)), some (.lst (intsO r)), some (.fz (.ins 1 [7, 8, 5, 6] [pairD a b, .tup (rowsT m), .tup (intsD' l), .tup (intsD' r)]))] = .ok false :=
    x_tor (x_t2 (x_v (n := 4) rfl) (x_v (n := 1) rfl) (ne_self (d := .lst (rowsD m)) (congrArg D.lst (ds_rowsO m)) rfl (Flat.rows.eok (by decide))))
      (x_tor (x_t2 (x_v (n := 5) rfl) (x_v (n := 2) rfl) (ne_self (d := .lst (intsD' l)) (congrArg D.lst (ds_intsO l)) rfl (Flat.ints.eok (by decide))))
        (x_t2 (x_v (n := 6) rfl) (x_v (n := 3) rfl) (ne_self (d := .lst (intsD' r)) (congrArg D.lst (ds_intsO r)) rfl (Flat.ints.eok (by decide)))))
  have e5 : Ml.exec g33 (.callr none true (.fn 30) [.r 4]) [some (.fz (pairD a b)), some (.fz (.lst (rowsD m))), some (.fz (.lst (intsD' l))), some (.fz (.lst (intsD' r))), some (.lst (rowsO m)), some (.lst (intsO l)), some (.lst (intsO r)), some (.fz (.ins 1 [7, 8, 5, 6] [pairD a b, .tup (rowsT m), .tup (intsD' l), .tup (intsD' r)]))] = .nx [some (.fz (pairD a b)), some (.fz (.lst (rowsD m))), some (.fz (.lst (intsD' l))), some (.fz (.lst (intsD' r))), some (o), some (.lst (intsO l)), some (.lst (intsO r)), some (.fz (.ins 1 [7, 8, 5, 6] [pairD a b, .tup (rowsT m), .tup (intsD' l), .tup (intsD' r)]))] := x_calln (call_fn rfl ho rfl)
  have e6 : Ml.exec g33 (.mut 5 [] .app [.k (.int 9)]) [some (.fz (pairD a b)), some (.fz (.lst (rowsD m))), some (.fz (.lst (intsD' l))), some (.fz (.lst (intsD' r))), some (o), some (.lst (intsO l)), some (.lst (intsO r)), some (.fz (.ins 1 [7, 8, 5, 6] [pairD a b, .tup (rowsT m), .tup (intsD' l), .tup (intsD' r)]))] = .nx [some (.fz (pairD a b)), some (.fz (.lst (rowsD m))), some (.fz (.lst (intsD' l))), some (.fz (.lst (intsD' r))), some (o), some (.lst (intsO l ++ [.fz (.int 9)])), some (.lst (intsO r)), some (.fz (.ins 1 [7, 8, 5, 6] [pairD a b, .tup (rowsT m), .tup (intsD' l), .tup (intsD' r)]))] := x_app (os := intsO l) (o := .fz (.int 9)) rfl (x := .my (.fz (.int 9))) rfl rfl (len5 hl)
  have e7 : Ml.exec g33 (.mut 6 [] .ins [.k (.int 0), .k (.int 9)]) [some (.fz (pairD a b)), some (.fz (.lst (rowsD m))), some (.fz (.lst (intsD' l))), some (.fz (.lst (intsD' r))), some (o), some (.lst (intsO l ++ [.fz (.int 9)])), some (.lst (intsO r)), some (.fz (.ins 1 [7, 8, 5, 6] [pairD a b, .tup (rowsT m), .tup (intsD' l), .tup (intsD' r)]))] = .nx [some (.fz (pairD a b)), some (.fz (.lst (rowsD m))), some (.fz (.lst (intsD' l))), some (.fz (.lst (intsD' r))), some (o), some (.lst (intsO l ++ [.fz (.int 9)])), some (.lst (.fz (.int 9) :: intsO r)), some (.fz (.ins 1 [7, 8, 5, 6] [pairD a b, .tup (rowsT m), .tup (intsD' l), .tup (intsD' r)]))] := x_ins (os := intsO r) (o := .fz (.int 9)) rfl rfl (x := .my (.fz (.int 9))) rfl rfl (len5 hr)
  refine run_ret (n := 8) (st := [some (.fz (pairD a b)), some (.fz (.lst (rowsD m))), some (.fz (.lst (intsD' l))), some (.fz (.lst (intsD' r))), some (o), some (.lst (intsO l ++ [.fz (.int 9)])), some (.lst (.fz (.int 9) :: intsO r)), some (.fz (.ins 1 [7, 8, 5, 6] [pairD a b, .tup (rowsT m), .tup (intsD' l), .tup (intsD' r)]))]) ?_
  show Ml.execs g33 c33 [some (.fz (pairD a b)), some (.fz (.lst (rowsD m))), some (.fz (.lst (intsD' l))), some (.fz (.lst (intsD' r))), none, none, none, none] = _
  unfold c33
  rw [x_cons e1, x_cons e2, x_cons e3, x_cons e4, x_cons (x_skip t4), x_cons e5, x_cons e6, x_cons e7]
  rw [x_cons (x_skip (x_tor (x_tnot (q := true) rfl) (x_tor (x_tnot (q := true) (x_te (call1 (x_es (x_fld (x_v (n := 7) rfl) rfl) (x_es (x_v (n := 0) rfl) rfl)) rfl (same_ok a b)) rfl)) (x_tnot (q := true) (x_te (call1 (x_es (x_fld (x_v (n := 7) rfl) rfl) (x_es (x_v (n := 1) rfl) rfl)) rfl (keptR hm)) rfl)))))]
  exact x_one (x_ret (x_and (call1 (x_es (x_fld (x_v (n := 7) rfl) rfl) (x_es (x_v (n := 2) rfl) rfl)) rfl (keptN hl)) (call1 (x_es (x_fld (x_v (n := 7) rfl) rfl) (x_es (x_v (n := 3) rfl) rfl)) rfl (keptN hr))))

theorem factor3_ok {a b : Int} {m : List (List (Int × Int))} {w : List (Int × Int)} (hm : Sm m) : f3 [.ins 2 [] [], .fz (pairD a b), .lst (pairsO w), .lst (rowsO m)] = .ok (.fz .non, [.ins 2 [11, 9, 10] [.fz (pairD a b), .fz (.tup (rowD w)), .fz (.tup (rowsT m))], .lst (pairsO w), .lst (rowsO m)]) := by
  have fr := frozen_ok (a := .lst (rowsO m)) rfl rfl gS_own (len5 hm.n)
  rw [own_tup] at fr
  have e1 : Ml.exec g3 (.setf 0 11 (.v 1)) [some (.ins 2 [] []), some (.fz (pairD a b)), some (.lst (pairsO w)), some (.lst (rowsO m))] = .nx [some (.ins 2 [11] [.fz (pairD a b)]), some (.fz (pairD a b)), some (.lst (pairsO w)), some (.lst (rowsO m))] := x_setf (x_v (n := 1) rfl) rfl (c := 2) (ns := []) (os := []) rfl ⟨rfl, rfl, by decide⟩
  have e2 : Ml.exec g3 (.setf 0 9 (.bi .tuple [.v 2])) [some (.ins 2 [11] [.fz (pairD a b)]), some (.fz (pairD a b)), some (.lst (pairsO w)), some (.lst (rowsO m))] = .nx [some (.ins 2 [11, 9] [.fz (pairD a b), .fz (.tup (rowD w))]), some (.fz (pairD a b)), some (.lst (pairsO w)), some (.lst (rowsO m))] := x_setf (x_tupl (x_v (n := 2) rfl) seq_pairsO) rfl (c := 2) (ns := [11]) (os := [.fz (pairD a b)]) rfl ⟨rfl, rfl, by decide⟩
  have e3 : Ml.exec g3 (.setC 0 10 (.fn 0) [.r 3]) [some (.ins 2 [11, 9] [.fz (pairD a b), .fz (.tup (rowD w))]), some (.fz (pairD a b)), some (.lst (pairsO w)), some (.lst (rowsO m))] = .nx [some (.ins 2 [11, 9, 10] [.fz (pairD a b), .fz (.tup (rowD w)), .fz (.tup (rowsT m))]), some (.fz (pairD a b)), some (.lst (pairsO w)), some (.lst (rowsO m))] := x_setC (st' := [some (.ins 2 [11, 9] [.fz (pairD a b), .fz (.tup (rowD w))]), some (.fz (pairD a b)), some (.lst (pairsO w)), some (.lst (rowsO m))]) (n := 0) (f := 10) (o := .fz (.tup (rowsT m))) (c := 2) (ns := [11, 9]) (os := [.fz (pairD a b), .fz (.tup (rowD w))]) (call_frozen rfl fr) rfl ⟨rfl, rfl, by decide⟩
  have e5 : Ml.execs g3 c3 [some (.ins 2 [] []), some (.fz (pairD a b)), some (.lst (pairsO w)), some (.lst (rowsO m))] = .nx [some (.ins 2 [11, 9, 10] [.fz (pairD a b), .fz (.tup (rowD w)), .fz (.tup (rowsT m))]), some (.fz (pairD a b)), some (.lst (pairsO w)), some (.lst (rowsO m))] := by
    unfold c3
    rw [x_cons e1, x_cons e2]
    exact x_one e3
  unfold f3 runF
  show (match Ml.execs g3 c3 [some (.ins 2 [] []), some (.fz (pairD a b)), some (.lst (pairsO w)), some (.lst (rowsO m))] with
    | .nx st => _
    | .ret o st => _
    | .exc c ds => _
    | _ => _ : Rs (O × List O)) = _
  rw [e5]
  rfl

theorem factor_ok {a b : Int} {m : List (List (Int × Int))} {w : List (Int × Int)} (hm : Sm m) (hw : w.length ≤ 5) : f34 [.fz (pairD a b), .fz (.lst (rowD w)), .fz (.lst (rowsD m))] = .ok (.fz (.bl true), []) := by
  obtain ⟨o, ho⟩ := spoiled hm
  have e1 : Ml.exec g34 (.asg false (.nm 3) (.bi .list [.v 1])) [some (.fz (pairD a b)), some (.fz (.lst (rowD w))), some (.fz (.lst (rowsD m))), none, none, none] = .nx [some (.fz (pairD a b)), some (.fz (.lst (rowD w))), some (.fz (.lst (rowsD m))), some (.lst (pairsO w)), none, none] := x_set (x_lst rfl pairsO_map.symm) rfl
  have e2 : Ml.exec g34 (.asg false (.nm 4) (.call 28 [.v 2])) [some (.fz (pairD a b)), some (.fz (.lst (rowD w))), some (.fz (.lst (rowsD m))), some (.lst (pairsO w)), none, none] = .nx [some (.fz (pairD a b)), some (.fz (.lst (rowD w))), some (.fz (.lst (rowsD m))), some (.lst (pairsO w)), some (.lst (rowsO m)), none] := x_set (call1 (x_es (x_v (n := 2) rfl) rfl) rfl (copied hm)) rfl
  have e4 : Ml.exec g34 (.callr (some 5) true (.mk 2 3) [.e (.v 0), .r 3, .r 4]) [some (.fz (pairD a b)), some (.fz (.lst (rowD w))), some (.fz (.lst (rowsD m))), some (.lst (pairsO w)), some (.lst (rowsO m)), none] = .nx [some (.fz (pairD a b)), some (.fz (.lst (rowD w))), some (.fz (.lst (rowsD m))), some (.lst (pairsO w)), some (.lst (rowsO m)), some (.fz (.ins 2 [11, 9, 10] [pairD a b, .tup (rowD w), .tup (rowsT m)]))] := x_callr (i := 5) (o := .ins 2 [11, 9, 10] [.fz (pairD a b), .fz (.tup (rowD w)), .fz (.tup (rowsT m))]) (st' := [some (.fz (pairD a b)), some (.fz (.lst (rowD w))), some (.fz (.lst (rowsD m))), some (.lst (pairsO w)), some (.lst (rowsO m)), none]) (call_mk (os := [.fz (pairD a b), .lst (pairsO w), .lst (rowsO m)]) rfl (factor3_ok hm) rfl)
  have t4 : et g34 (.or (.o2 .ne (.v 3) (.v 1)) (.o2 .ne (.v 4) (.v 2))) [some (.fz (pairD a b)), some (.fz (.lst (rowD w))), some (.fz (.lst (rowsD m))), some (.lst (pairsO w)), some (.lst (rowsO m)), some (.fz (.ins 2 [11, 9, 10] [pairD a b, .tup (rowD w), .tup (rowsT m)]))] = .ok false :=
    x_tor (x_t2 (x_v (n := 3) rfl) (x_v (n := 1) rfl) (ne_self (d := .lst (rowD w)) (congrArg D.lst (ds_pairsO w)) rfl (Flat.row.eok (by decide))))
      (x_t2 (x_v (n := 4) rfl) (x_v (n := 2) rfl) (ne_self (d := .lst (rowsD m)) (congrArg D.lst (ds_rowsO m)) rfl (Flat.rows.eok (by decide))))
  have e5 : Ml.exec g34 (.mut 3 [] .app [.tup [.k (.int 7), .k (.int 1)]]) [some (.fz (pairD a b)), some (.fz (.lst (rowD w))), some (.fz (.lst (rowsD m))), some (.lst (pairsO w)), some (.lst (rowsO m)), some (.fz (.ins 2 [11, 9, 10] [pairD a b, .tup (rowD w), .tup (rowsT m)]))] = .nx [some (.fz (pairD a b)), some (.fz (.lst (rowD w))), some (.fz (.lst (rowsD m))), some (.lst (pairsO w ++ [.fz (pairD 7 1)])), some (.lst (rowsO m)), some (.fz (.ins 2 [11, 9, 10] [pairD a b, .tup (rowD w), .tup (rowsT m)]))] := x_app (os := pairsO w) (o := .fz (pairD 7 1)) rfl (x := .my (.fz (pairD 7 1))) rfl rfl (len5 hw)
  have e6 : Ml.exec g34 (.callr none true (.fn 30) [.r 4]) [some (.fz (pairD a b)), some (.fz (.lst (rowD w))), some (.fz (.lst (rowsD m))), some (.lst (pairsO w ++ [.fz (pairD 7 1)])), some (.lst (rowsO m)), some (.fz (.ins 2 [11, 9, 10] [pairD a b, .tup (rowD w), .tup (rowsT m)]))] = .nx [some (.fz (pairD a b)), some (.fz (.lst (rowD w))), some (.fz (.lst (rowsD m))), some (.lst (pairsO w ++ [.fz (pairD 7 1)])), some (o), some (.fz (.ins 2 [11, 9, 10] [pairD a b, .tup (rowD w), .tup (rowsT m)]))] := x_calln (call_fn rfl ho rfl)
  refine run_ret (n := 6) (st := [some (.fz (pairD a b)), some (.fz (.lst (rowD w))), some (.fz (.lst (rowsD m))), some (.lst (pairsO w ++ [.fz (pairD 7 1)])), some (o), some (.fz (.ins 2 [11, 9, 10] [pairD a b, .tup (rowD w), .tup (rowsT m)]))]) ?_
  show Ml.execs g34 c34 [some (.fz (pairD a b)), some (.fz (.lst (rowD w))), some (.fz (.lst (rowsD m))), none, none, none] = _
  unfold c34
  rw [x_cons e1, x_cons e2, x_cons e4, x_cons (x_skip t4), x_cons e5, x_cons e6]
  rw [x_cons (x_skip (x_tor (x_tnot (q := true) rfl) (x_tnot (q := true) (x_te (call1 (x_es (x_fld (x_v (n := 5) rfl) rfl) (x_es (x_v (n := 0) rfl) rfl)) rfl (same_ok a b)) rfl))))]
  exact x_one (x_ret (x_and (call1 (x_es (x_fld (x_v (n := 5) rfl) rfl) (x_es (x_v (n := 1) rfl) rfl)) rfl (kept hw)) (call1 (x_es (x_fld (x_v (n := 5) rfl) rfl) (x_es (x_v (n := 2) rfl) rfl)) rfl (keptR hm))))

theorem x_tandt {G : Gl} {st : Ml.St} {a b : Te} {q : Bool} (h1 : et G a st = .ok true) (h2 : et G b st = .ok q) : et G (.and a b) st = .ok q := by
  show (et G a st).then _ = _
  rw [h1]
  exact h2
theorem x_tandf {G : Gl} {st : Ml.St} {a b : Te} (h1 : et G a st = .ok false) : et G (.and a b) st = .ok false := by
  show (et G a st).then _ = _
  rw [h1]
  rfl
/-- what a paper has -/
structure Pf where
  kind : Str
  pr : List (Int × Int)
  sh : List (List (Int × Int))
  ot : List (List (Int × Int))
  pe : List Int
  go : List Int
  ta : List (Int × Int)
  we : List (Int × Int)
  fa : Int × Int
  of : List (List (Int × Int))
structure Pf.Sm (f : Pf) : Prop where
  pr : f.pr.length ≤ 5
  sh : L93.Sm f.sh
  ot : L93.Sm f.ot
  pe : f.pe.length ≤ 5
  go : f.go.length ≤ 5
  ta : f.ta.length ≤ 5
  we : f.we.length ≤ 5
  of : L93.Sm f.of
  kind : (D.str f.kind).eok = true
def Pf.paper (f : Pf) : D := .ins 0 [12, 3, 1, 13, 14, 15, 16, 9, 11, 10] [.str f.kind, .tup (rowD f.pr), .tup (rowsT f.sh), .tup (rowsT f.ot), .tup (intsD' f.pe), .tup (intsD' f.go), .tup (rowD f.ta), .tup (rowD f.we), pairD f.fa.1 f.fa.2, .tup (rowsT f.of)]
def Pf.paperO (f : Pf) : O := .ins 0 [12, 3, 1, 13, 14, 15, 16, 9, 11, 10] [.fz (.str f.kind), .fz (.tup (rowD f.pr)), .fz (.tup (rowsT f.sh)), .fz (.tup (rowsT f.ot)), .fz (.tup (intsD' f.pe)), .fz (.tup (intsD' f.go)), .fz (.tup (rowD f.ta)), .fz (.tup (rowD f.we)), .fz (pairD f.fa.1 f.fa.2), .fz (.tup (rowsT f.of))]
def Pf.due (f : Pf) : D := .lst [.lst (rowD f.pr), .lst (rowsD f.sh), .lst (rowsD f.ot), .lst (intsD' f.pe), .lst (intsD' f.go), .lst (rowD f.ta), .lst (rowD f.we), pairD f.fa.1 f.fa.2, .lst (rowsD f.of)]
theorem str_ne {s : Str} (h : (D.str s).eok = true) : op2 .ne (.fz (.str s)) (.fz (.str s)) = some (.fz (.bl false)) := ne_self rfl rfl h

theorem x_ixk {G : Gl} {st : Ml.St} {a : E} {x : Rv} {i : Int} {o : O} (h : ev G a st = .ok x) (h2 : ixO x.o (.fz (.int i)) = some o) : ev G (.ix a (.k (.int i))) st = .ok (.vw o) := by
  show (ev G a st).then _ = _
  rw [h]
  show (match ixO x.o (.fz (.int i)) with | some o => Rs.ok (Rv.vw o) | none => .bad) = _
  rw [h2]
theorem fields_ok {f : Pf} (h : f.Sm) : f36 [.fz f.paper, .fz (.str f.kind), .fz f.due] = .ok (.fz (.bl true), []) := by
  refine run_ret (n := 3) (st := [some (.fz f.paper), some (.fz (.str f.kind)), some (.fz f.due)]) ?_
  show Ml.execs g36 c36 [some (.fz f.paper), some (.fz (.str f.kind)), some (.fz f.due)] = _
  unfold c36
  rw [x_cons (x_skip (x_tor (x_tnot (q := true) rfl) (x_tor (x_tnot (q := true) rfl) (x_t2 (x_fld (x_v (n := 0) rfl) rfl) (x_v (n := 1) rfl) (str_ne h.kind)))))]
  rw [x_cons (x_skip (x_tor (x_tnot (q := true) (x_te (call1 (x_es (x_fld (x_v (n := 0) rfl) rfl) (x_es (x_ixk (i := 0) (x_v (n := 2) rfl) rfl) rfl)) rfl (kept h.pr)) rfl)) (x_tnot (q := true) (x_te (call1 (x_es (x_fld (x_v (n := 0) rfl) rfl) (x_es (x_ixk (i := 1) (x_v (n := 2) rfl) rfl) rfl)) rfl (keptR h.sh)) rfl))))]
  rw [x_cons (x_skip (x_tor (x_tnot (q := true) (x_te (call1 (x_es (x_fld (x_v (n := 0) rfl) rfl) (x_es (x_ixk (i := 2) (x_v (n := 2) rfl) rfl) rfl)) rfl (keptR h.ot)) rfl)) (x_tnot (q := true) (x_te (call1 (x_es (x_fld (x_v (n := 0) rfl) rfl) (x_es (x_ixk (i := 3) (x_v (n := 2) rfl) rfl) rfl)) rfl (keptN h.pe)) rfl))))]
  rw [x_cons (x_skip (x_tor (x_tnot (q := true) (x_te (call1 (x_es (x_fld (x_v (n := 0) rfl) rfl) (x_es (x_ixk (i := 4) (x_v (n := 2) rfl) rfl) rfl)) rfl (keptN h.go)) rfl)) (x_tnot (q := true) (x_te (call1 (x_es (x_fld (x_v (n := 0) rfl) rfl) (x_es (x_ixk (i := 5) (x_v (n := 2) rfl) rfl) rfl)) rfl (kept h.ta)) rfl))))]
  rw [x_cons (x_skip (x_tor (x_tnot (q := true) (x_te (call1 (x_es (x_fld (x_v (n := 0) rfl) rfl) (x_es (x_ixk (i := 6) (x_v (n := 2) rfl) rfl) rfl)) rfl (kept h.we)) rfl)) (x_tnot (q := true) (x_te (call1 (x_es (x_fld (x_v (n := 0) rfl) rfl) (x_es (x_ixk (i := 7) (x_v (n := 2) rfl) rfl) rfl)) rfl (same_ok _ _)) rfl))))]
  exact x_one (x_ret (call1 (x_es (x_fld (x_v (n := 0) rfl) rfl) (x_es (x_ixk (i := 8) (x_v (n := 2) rfl) rfl) rfl)) rfl (keptR h.of)))

/-- an argument that is made a tuple, or a tuple of tuples -/
structure Rw (a : O) (ds : List D) : Prop where
  str : str? a = none
  q : ∃ os, items? a = some os ∧ (∀ o ∈ os, seq? o = some (gS o)) ∧ os.map (fun o => D.tup (gS o)) = ds ∧ os.length < sizeLine
theorem Rw.fr {a : O} {ds : List D} (h : Rw a ds) : f0 [a] = .ok (.fz (.tup ds), [a]) := by
  obtain ⟨os, h1, h2, h3, h4⟩ := h.q
  have := frozen_ok h.str h1 h2 h4
  rw [h3] at this
  exact this
theorem Rw.own {rows : List (List (Int × Int))} (h : Sm rows) : Rw (.lst (rowsO rows)) (rowsT rows) := ⟨rfl, _, rfl, gS_own, own_tup, len5 h.n⟩
theorem Rw.tup {rows : List (List (Int × Int))} (h : Sm rows) : Rw (.fz (.tup (rowsT rows))) (rowsT rows) := ⟨rfl, _, rfl, gS_tup, tup_tup, len55 h.n⟩
theorem Rw.no : Rw (.fz (.tup [])) [] := ⟨rfl, [], rfl, fun _ z => (nomatch z), rfl, by decide⟩
theorem Rw.fz {rows : List (List (Int × Int))} (h : Sm rows) : Rw (.fz (.lst (rowsD rows))) (rowsT rows) := ⟨rfl, _, rfl, gS_lst, lst_tup, len55 h.n⟩

theorem made_ok {G : Gl} (G0 : ∀ os, G.fs 0 os = f0 os) (GF : G.fl = fl) {f : Pf} {a1 a2 a3 a4 a5 a6 a7 a9 : O} (h1 : seq? a1 = some (rowD f.pr)) (h2 : Rw a2 (rowsT f.sh)) (h3 : Rw a3 (rowsT f.ot)) (h4 : seq? a4 = some (intsD' f.pe)) (h5 : seq? a5 = some (intsD' f.go)) (h6 : seq? a6 = some (rowD f.ta)) (h7 : seq? a7 = some (rowD f.we)) (h9 : Rw a9 (rowsT f.of)) :
    Ml.execs G c14 [some (.ins 0 [] []), some (.fz (.str f.kind)), some (a1), some (a2), some (a3), some (a4), some (a5), some (a6), some (a7), some (.fz (pairD f.fa.1 f.fa.2)), some (a9)] = .nx [some f.paperO, some (.fz (.str f.kind)), some (a1), some (a2), some (a3), some (a4), some (a5), some (a6), some (a7), some (.fz (pairD f.fa.1 f.fa.2)), some (a9)] := by
  have e0 : Ml.exec G (.setf 0 12 (.v 1)) [some (.ins 0 [] []), some (.fz (.str f.kind)), some (a1), some (a2), some (a3), some (a4), some (a5), some (a6), some (a7), some (.fz (pairD f.fa.1 f.fa.2)), some (a9)] = .nx [some (.ins 0 [12] [.fz (.str f.kind)]), some (.fz (.str f.kind)), some (a1), some (a2), some (a3), some (a4), some (a5), some (a6), some (a7), some (.fz (pairD f.fa.1 f.fa.2)), some (a9)] := x_setf (x_v (n := 1) rfl) rfl (c := 0) (ns := []) (os := []) rfl ⟨by rw [GF]; rfl, rfl, by decide⟩
  have e1 : Ml.exec G (.setf 0 3 (.bi .tuple [.v 2])) [some (.ins 0 [12] [.fz (.str f.kind)]), some (.fz (.str f.kind)), some (a1), some (a2), some (a3), some (a4), some (a5), some (a6), some (a7), some (.fz (pairD f.fa.1 f.fa.2)), some (a9)] = .nx [some (.ins 0 [12, 3] [.fz (.str f.kind), .fz (.tup (rowD f.pr))]), some (.fz (.str f.kind)), some (a1), some (a2), some (a3), some (a4), some (a5), some (a6), some (a7), some (.fz (pairD f.fa.1 f.fa.2)), some (a9)] := x_setf (x_tupl (x_v (n := 2) rfl) h1) rfl (c := 0) (ns := [12]) (os := [.fz (.str f.kind)]) rfl ⟨by rw [GF]; rfl, rfl, by decide⟩
  have e2 : Ml.exec G (.setC 0 1 (.fn 0) [.r 3]) [some (.ins 0 [12, 3] [.fz (.str f.kind), .fz (.tup (rowD f.pr))]), some (.fz (.str f.kind)), some (a1), some (a2), some (a3), some (a4), some (a5), some (a6), some (a7), some (.fz (pairD f.fa.1 f.fa.2)), some (a9)] = .nx [some (.ins 0 [12, 3, 1] [.fz (.str f.kind), .fz (.tup (rowD f.pr)), .fz (.tup (rowsT f.sh))]), some (.fz (.str f.kind)), some (a1), some (a2), some (a3), some (a4), some (a5), some (a6), some (a7), some (.fz (pairD f.fa.1 f.fa.2)), some (a9)] := x_setC (st' := [some (.ins 0 [12, 3] [.fz (.str f.kind), .fz (.tup (rowD f.pr))]), some (.fz (.str f.kind)), some (a1), some (a2), some (a3), some (a4), some (a5), some (a6), some (a7), some (.fz (pairD f.fa.1 f.fa.2)), some (a9)]) (n := 0) (f := 1) (o := .fz (.tup (rowsT f.sh))) (c := 0) (ns := [12, 3]) (os := [.fz (.str f.kind), .fz (.tup (rowD f.pr))]) (call_frozen rfl ((G0 _).trans h2.fr)) rfl ⟨by rw [GF]; rfl, rfl, by decide⟩
  have e3 : Ml.exec G (.setC 0 13 (.fn 0) [.r 4]) [some (.ins 0 [12, 3, 1] [.fz (.str f.kind), .fz (.tup (rowD f.pr)), .fz (.tup (rowsT f.sh))]), some (.fz (.str f.kind)), some (a1), some (a2), some (a3), some (a4), some (a5), some (a6), some (a7), some (.fz (pairD f.fa.1 f.fa.2)), some (a9)] = .nx [some (.ins 0 [12, 3, 1, 13] [.fz (.str f.kind), .fz (.tup (rowD f.pr)), .fz (.tup (rowsT f.sh)), .fz (.tup (rowsT f.ot))]), some (.fz (.str f.kind)), some (a1), some (a2), some (a3), some (a4), some (a5), some (a6), some (a7), some (.fz (pairD f.fa.1 f.fa.2)), some (a9)] := x_setC (st' := [some (.ins 0 [12, 3, 1] [.fz (.str f.kind), .fz (.tup (rowD f.pr)), .fz (.tup (rowsT f.sh))]), some (.fz (.str f.kind)), some (a1), some (a2), some (a3), some (a4), some (a5), some (a6), some (a7), some (.fz (pairD f.fa.1 f.fa.2)), some (a9)]) (n := 0) (f := 13) (o := .fz (.tup (rowsT f.ot))) (c := 0) (ns := [12, 3, 1]) (os := [.fz (.str f.kind), .fz (.tup (rowD f.pr)), .fz (.tup (rowsT f.sh))]) (call_frozen rfl ((G0 _).trans h3.fr)) rfl ⟨by rw [GF]; rfl, rfl, by decide⟩
  have e4 : Ml.exec G (.setf 0 14 (.bi .tuple [.v 5])) [some (.ins 0 [12, 3, 1, 13] [.fz (.str f.kind), .fz (.tup (rowD f.pr)), .fz (.tup (rowsT f.sh)), .fz (.tup (rowsT f.ot))]), some (.fz (.str f.kind)), some (a1), some (a2), some (a3), some (a4), some (a5), some (a6), some (a7), some (.fz (pairD f.fa.1 f.fa.2)), some (a9)] = .nx [some (.ins 0 [12, 3, 1, 13, 14] [.fz (.str f.kind), .fz (.tup (rowD f.pr)), .fz (.tup (rowsT f.sh)), .fz (.tup (rowsT f.ot)), .fz (.tup (intsD' f.pe))]), some (.fz (.str f.kind)), some (a1), some (a2), some (a3), some (a4), some (a5), some (a6), some (a7), some (.fz (pairD f.fa.1 f.fa.2)), some (a9)] := x_setf (x_tupl (x_v (n := 5) rfl) h4) rfl (c := 0) (ns := [12, 3, 1, 13]) (os := [.fz (.str f.kind), .fz (.tup (rowD f.pr)), .fz (.tup (rowsT f.sh)), .fz (.tup (rowsT f.ot))]) rfl ⟨by rw [GF]; rfl, rfl, by decide⟩
  have e5 : Ml.exec G (.setf 0 15 (.bi .tuple [.v 6])) [some (.ins 0 [12, 3, 1, 13, 14] [.fz (.str f.kind), .fz (.tup (rowD f.pr)), .fz (.tup (rowsT f.sh)), .fz (.tup (rowsT f.ot)), .fz (.tup (intsD' f.pe))]), some (.fz (.str f.kind)), some (a1), some (a2), some (a3), some (a4), some (a5), some (a6), some (a7), some (.fz (pairD f.fa.1 f.fa.2)), some (a9)] = .nx [some (.ins 0 [12, 3, 1, 13, 14, 15] [.fz (.str f.kind), .fz (.tup (rowD f.pr)), .fz (.tup (rowsT f.sh)), .fz (.tup (rowsT f.ot)), .fz (.tup (intsD' f.pe)), .fz (.tup (intsD' f.go))]), some (.fz (.str f.kind)), some (a1), some (a2), some (a3), some (a4), some (a5), some (a6), some (a7), some (.fz (pairD f.fa.1 f.fa.2)), some (a9)] := x_setf (x_tupl (x_v (n := 6) rfl) h5) rfl (c := 0) (ns := [12, 3, 1, 13, 14]) (os := [.fz (.str f.kind), .fz (.tup (rowD f.pr)), .fz (.tup (rowsT f.sh)), .fz (.tup (rowsT f.ot)), .fz (.tup (intsD' f.pe))]) rfl ⟨by rw [GF]; rfl, rfl, by decide⟩
  have e6 : Ml.exec G (.setf 0 16 (.bi .tuple [.v 7])) [some (.ins 0 [12, 3, 1, 13, 14, 15] [.fz (.str f.kind), .fz (.tup (rowD f.pr)), .fz (.tup (rowsT f.sh)), .fz (.tup (rowsT f.ot)), .fz (.tup (intsD' f.pe)), .fz (.tup (intsD' f.go))]), some (.fz (.str f.kind)), some (a1), some (a2), some (a3), some (a4), some (a5), some (a6), some (a7), some (.fz (pairD f.fa.1 f.fa.2)), some (a9)] = .nx [some (.ins 0 [12, 3, 1, 13, 14, 15, 16] [.fz (.str f.kind), .fz (.tup (rowD f.pr)), .fz (.tup (rowsT f.sh)), .fz (.tup (rowsT f.ot)), .fz (.tup (intsD' f.pe)), .fz (.tup (intsD' f.go)), .fz (.tup (rowD f.ta))]), some (.fz (.str f.kind)), some (a1), some (a2), some (a3), some (a4), some (a5), some (a6), some (a7), some (.fz (pairD f.fa.1 f.fa.2)), some (a9)] := x_setf (x_tupl (x_v (n := 7) rfl) h6) rfl (c := 0) (ns := [12, 3, 1, 13, 14, 15]) (os := [.fz (.str f.kind), .fz (.tup (rowD f.pr)), .fz (.tup (rowsT f.sh)), .fz (.tup (rowsT f.ot)), .fz (.tup (intsD' f.pe)), .fz (.tup (intsD' f.go))]) rfl ⟨by rw [GF]; rfl, rfl, by decide⟩
  have e7 : Ml.exec G (.setf 0 9 (.bi .tuple [.v 8])) [some (.ins 0 [12, 3, 1, 13, 14, 15, 16] [.fz (.str f.kind), .fz (.tup (rowD f.pr)), .fz (.tup (rowsT f.sh)), .fz (.tup (rowsT f.ot)), .fz (.tup (intsD' f.pe)), .fz (.tup (intsD' f.go)), .fz (.tup (rowD f.ta))]), some (.fz (.str f.kind)), some (a1), some (a2), some (a3), some (a4), some (a5), some (a6), some (a7), some (.fz (pairD f.fa.1 f.fa.2)), some (a9)] = .nx [some (.ins 0 [12, 3, 1, 13, 14, 15, 16, 9] [.fz (.str f.kind), .fz (.tup (rowD f.pr)), .fz (.tup (rowsT f.sh)), .fz (.tup (rowsT f.ot)), .fz (.tup (intsD' f.pe)), .fz (.tup (intsD' f.go)), .fz (.tup (rowD f.ta)), .fz (.tup (rowD f.we))]), some (.fz (.str f.kind)), some (a1), some (a2), some (a3), some (a4), some (a5), some (a6), some (a7), some (.fz (pairD f.fa.1 f.fa.2)), some (a9)] := x_setf (x_tupl (x_v (n := 8) rfl) h7) rfl (c := 0) (ns := [12, 3, 1, 13, 14, 15, 16]) (os := [.fz (.str f.kind), .fz (.tup (rowD f.pr)), .fz (.tup (rowsT f.sh)), .fz (.tup (rowsT f.ot)), .fz (.tup (intsD' f.pe)), .fz (.tup (intsD' f.go)), .fz (.tup (rowD f.ta))]) rfl ⟨by rw [GF]; rfl, rfl, by decide⟩
  have e8 : Ml.exec G (.setf 0 11 (.v 9)) [some (.ins 0 [12, 3, 1, 13, 14, 15, 16, 9] [.fz (.str f.kind), .fz (.tup (rowD f.pr)), .fz (.tup (rowsT f.sh)), .fz (.tup (rowsT f.ot)), .fz (.tup (intsD' f.pe)), .fz (.tup (intsD' f.go)), .fz (.tup (rowD f.ta)), .fz (.tup (rowD f.we))]), some (.fz (.str f.kind)), some (a1), some (a2), some (a3), some (a4), some (a5), some (a6), some (a7), some (.fz (pairD f.fa.1 f.fa.2)), some (a9)] = .nx [some (.ins 0 [12, 3, 1, 13, 14, 15, 16, 9, 11] [.fz (.str f.kind), .fz (.tup (rowD f.pr)), .fz (.tup (rowsT f.sh)), .fz (.tup (rowsT f.ot)), .fz (.tup (intsD' f.pe)), .fz (.tup (intsD' f.go)), .fz (.tup (rowD f.ta)), .fz (.tup (rowD f.we)), .fz (pairD f.fa.1 f.fa.2)]), some (.fz (.str f.kind)), some (a1), some (a2), some (a3), some (a4), some (a5), some (a6), some (a7), some (.fz (pairD f.fa.1 f.fa.2)), some (a9)] := x_setf (x_v (n := 9) rfl) rfl (c := 0) (ns := [12, 3, 1, 13, 14, 15, 16, 9]) (os := [.fz (.str f.kind), .fz (.tup (rowD f.pr)), .fz (.tup (rowsT f.sh)), .fz (.tup (rowsT f.ot)), .fz (.tup (intsD' f.pe)), .fz (.tup (intsD' f.go)), .fz (.tup (rowD f.ta)), .fz (.tup (rowD f.we))]) rfl ⟨by rw [GF]; rfl, rfl, by decide⟩
  have e9 : Ml.exec G (.setC 0 10 (.fn 0) [.r 10]) [some (.ins 0 [12, 3, 1, 13, 14, 15, 16, 9, 11] [.fz (.str f.kind), .fz (.tup (rowD f.pr)), .fz (.tup (rowsT f.sh)), .fz (.tup (rowsT f.ot)), .fz (.tup (intsD' f.pe)), .fz (.tup (intsD' f.go)), .fz (.tup (rowD f.ta)), .fz (.tup (rowD f.we)), .fz (pairD f.fa.1 f.fa.2)]), some (.fz (.str f.kind)), some (a1), some (a2), some (a3), some (a4), some (a5), some (a6), some (a7), some (.fz (pairD f.fa.1 f.fa.2)), some (a9)] = .nx [some (.ins 0 [12, 3, 1, 13, 14, 15, 16, 9, 11, 10] [.fz (.str f.kind), .fz (.tup (rowD f.pr)), .fz (.tup (rowsT f.sh)), .fz (.tup (rowsT f.ot)), .fz (.tup (intsD' f.pe)), .fz (.tup (intsD' f.go)), .fz (.tup (rowD f.ta)), .fz (.tup (rowD f.we)), .fz (pairD f.fa.1 f.fa.2), .fz (.tup (rowsT f.of))]), some (.fz (.str f.kind)), some (a1), some (a2), some (a3), some (a4), some (a5), some (a6), some (a7), some (.fz (pairD f.fa.1 f.fa.2)), some (a9)] := x_setC (st' := [some (.ins 0 [12, 3, 1, 13, 14, 15, 16, 9, 11] [.fz (.str f.kind), .fz (.tup (rowD f.pr)), .fz (.tup (rowsT f.sh)), .fz (.tup (rowsT f.ot)), .fz (.tup (intsD' f.pe)), .fz (.tup (intsD' f.go)), .fz (.tup (rowD f.ta)), .fz (.tup (rowD f.we)), .fz (pairD f.fa.1 f.fa.2)]), some (.fz (.str f.kind)), some (a1), some (a2), some (a3), some (a4), some (a5), some (a6), some (a7), some (.fz (pairD f.fa.1 f.fa.2)), some (a9)]) (n := 0) (f := 10) (o := .fz (.tup (rowsT f.of))) (c := 0) (ns := [12, 3, 1, 13, 14, 15, 16, 9, 11]) (os := [.fz (.str f.kind), .fz (.tup (rowD f.pr)), .fz (.tup (rowsT f.sh)), .fz (.tup (rowsT f.ot)), .fz (.tup (intsD' f.pe)), .fz (.tup (intsD' f.go)), .fz (.tup (rowD f.ta)), .fz (.tup (rowD f.we)), .fz (pairD f.fa.1 f.fa.2)]) (call_frozen rfl ((G0 _).trans h9.fr)) rfl ⟨by rw [GF]; rfl, rfl, by decide⟩
  unfold c14
  rw [x_cons e0, x_cons e1, x_cons e2, x_cons e3, x_cons e4, x_cons e5, x_cons e6, x_cons e7, x_cons e8]
  exact x_one e9

theorem run_nx {G : Gl} {n : Nat} {refs : List Nat} {b : List S} {os rs : List O} {st : Ml.St} (h : Ml.execs G b (os.map some ++ List.replicate (n - os.length) none) = .nx st) (h2 : refsOf refs st = some rs) : runF G n refs b os = .ok (.fz .non, rs) := by
  unfold runF
  rw [h]
  show (match refsOf refs st with
    | some rs => Rs.ok (O.fz .non, rs)
    | none => .bad) = _
  rw [h2]
theorem run_ret' {G : Gl} {n : Nat} {refs : List Nat} {b : List S} {os rs : List O} {o : O} {st : Ml.St} (h : Ml.execs G b (os.map some ++ List.replicate (n - os.length) none) = .ret o st) (h2 : refsOf refs st = some rs) : runF G n refs b os = .ok (o, rs) := by
  unfold runF
  rw [h]
  show (match refsOf refs st with
    | some rs => Rs.ok (o, rs)
    | none => .bad) = _
  rw [h2]

def one0 (f : Pf) : Pf := { kind := f.kind, pr := f.pr, sh := [], ot := [], pe := [], go := [], ta := [], we := [], fa := (0, 1), of := [] : Pf }
theorem one0_sm {f : Pf} (h : f.Sm) : (one0 f).Sm := ⟨h.pr, Sm.nil, Sm.nil, Nat.zero_le _, Nat.zero_le _, Nat.zero_le _, Nat.zero_le _, Sm.nil, h.kind⟩
theorem paper0_ok {f : Pf} (h : f.Sm) : f35 [.fz (.str f.kind), .fz (.int 0), .lst (pairsO f.pr)] = .ok ((one0 f).paperO, [.lst (pairsO f.pr)]) := by
  have m : Ml.execs g5 c14 [some (.ins 0 [] []), some (.fz (.str f.kind)), some (.lst (pairsO f.pr)), some (.fz (.tup [])), some (.fz (.tup [])), some (.fz (.tup [])), some (.fz (.tup [])), some (.fz (.tup [])), some (.fz (.tup [])), some (.fz (pairD 0 1)), some (.fz (.tup []))] = _ := made_ok (f := one0 f) (fun _ => rfl) rfl seq_pairsO Rw.no Rw.no rfl rfl rfl rfl Rw.no
  have r : f5 [.ins 0 [] [], .fz (.str f.kind), .lst (pairsO f.pr), .fz (.tup []), .fz (.tup []), .fz (.tup []), .fz (.tup []), .fz (.tup []), .fz (.tup []), .fz (pairD 0 1), .fz (.tup [])] = .ok (.fz .non, [(one0 f).paperO, .lst (pairsO f.pr)]) := run_nx (n := 11) m rfl
  have cc : callA g35 (.kw 0 0) [.e (.v 0), .r 2] [some (.fz (.str f.kind)), some (.fz (.int 0)), some (.lst (pairsO f.pr))] = .ok ((one0 f).paperO, [some (.fz (.str f.kind)), some (.fz (.int 0)), some (.lst (pairsO f.pr))]) :=
    call_kw' (κ := ⟨5, 1, ["prices"], [0, 1, 2, 3, 4, 5, 6, 7, 8, 9, 10], [.tup [], .tup [], .tup [], .tup [], .tup [], .tup [], .tup [.int 0, .int 1], .tup []]⟩) (g := f5) (os := [.fz (.str f.kind), .lst (pairsO f.pr)]) (os' := [.lst (pairsO f.pr)]) rfl rfl rfl (fun _ => rfl) r rfl
  refine run_ret' (n := 3) (st := [some (.fz (.str f.kind)), some (.fz (.int 0)), some (.lst (pairsO f.pr))]) ?_ rfl
  show Ml.execs g35 c35 [some (.fz (.str f.kind)), some (.fz (.int 0)), some (.lst (pairsO f.pr))] = _
  unfold c35

  exact x_stop ((x_if (c := .o2 .eq (.v 1) (.k (.int 0))) (t := true) (x_t2 (x_v (n := 1) rfl) x_k (x_eqb rfl))).trans (x_one (x_retC cc))) (fun _ z => nomatch z)

theorem field0_ok {f : Pf} (h : f.Sm) : f37 [.fz (.str f.kind), .fz f.due, .fz (.int 0)] = .ok (.fz (.bl true), []) := by
  have q0 : Ml.exec g37 (.asg false (.nm 3) (.lst [.lst [], .lst [], .lst [], .lst [], .lst [], .lst [], .lst [], .tup [.k (.int 0), .k (.int 1)], .lst []])) [some (.fz (.str f.kind)), some (.fz f.due), some (.fz (.int 0)), none, none, none] = .nx [some (.fz (.str f.kind)), some (.fz f.due), some (.fz (.int 0)), some (.lst [.lst [], .lst [], .lst [], .lst [], .lst [], .lst [], .lst [], .fz (pairD 0 1), .lst []]), none, none] := rfl
  have q1 : Ml.exec g37 (.asg false (.nm 4) (.tup [])) [some (.fz (.str f.kind)), some (.fz f.due), some (.fz (.int 0)), some (.lst [.lst [], .lst [], .lst [], .lst [], .lst [], .lst [], .lst [], .fz (pairD 0 1), .lst []]), none, none] = .nx [some (.fz (.str f.kind)), some (.fz f.due), some (.fz (.int 0)), some (.lst [.lst [], .lst [], .lst [], .lst [], .lst [], .lst [], .lst [], .fz (pairD 0 1), .lst []]), some (.fz (.tup [])), none] := rfl
  have ix : ∀ (a b c : Option O), ev g37 (.ix (.v 1) (.v 2)) [some (.fz (.str f.kind)), some (.fz f.due), some (.fz (.int 0)), a, b, c] = .ok (.vw (.fz (.lst (rowD f.pr)))) := fun _ _ _ => rfl
  have s1 : Ml.exec g37 (.seti 3 [] (.v 2) (.ix (.v 1) (.v 2))) [some (.fz (.str f.kind)), some (.fz f.due), some (.fz (.int 0)), some (.lst [.lst [], .lst [], .lst [], .lst [], .lst [], .lst [], .lst [], .fz (pairD 0 1), .lst []]), some (.fz (.tup [])), none] = .nx [some (.fz (.str f.kind)), some (.fz f.due), some (.fz (.int 0)), some (.lst [.fz (.lst (rowD f.pr)), .lst [], .lst [], .lst [], .lst [], .lst [], .lst [], .fz (pairD 0 1), .lst []]), some (.fz (.tup [])), none] := x_seti (n := 3) (m := 0) (os := [.lst [], .lst [], .lst [], .lst [], .lst [], .lst [], .lst [], .fz (pairD 0 1), .lst []]) (o := .fz (.lst (rowD f.pr))) (x := .vw (.fz (.lst (rowD f.pr)))) (k := 0) (ix _ _ _) rfl rfl (x_v (n := 2) rfl) rfl rfl
  have s2 : Ml.exec g37 (.asg false (.nm 4) (.ix (.v 1) (.v 2))) [some (.fz (.str f.kind)), some (.fz f.due), some (.fz (.int 0)), some (.lst [.fz (.lst (rowD f.pr)), .lst [], .lst [], .lst [], .lst [], .lst [], .lst [], .fz (pairD 0 1), .lst []]), some (.fz (.tup [])), none] = .nx [some (.fz (.str f.kind)), some (.fz f.due), some (.fz (.int 0)), some (.lst [.fz (.lst (rowD f.pr)), .lst [], .lst [], .lst [], .lst [], .lst [], .lst [], .fz (pairD 0 1), .lst []]), some (.fz (.lst (rowD f.pr))), none] := x_set (ix _ _ _) rfl
  have q2 : Ml.exec g37 (.ite (.o2 .lt (.v 2) (.k (.int 9))) [.seti 3 [] (.v 2) (.ix (.v 1) (.v 2)), .asg false (.nm 4) (.ix (.v 1) (.v 2))] []) [some (.fz (.str f.kind)), some (.fz f.due), some (.fz (.int 0)), some (.lst [.lst [], .lst [], .lst [], .lst [], .lst [], .lst [], .lst [], .fz (pairD 0 1), .lst []]), some (.fz (.tup [])), none] = .nx [some (.fz (.str f.kind)), some (.fz f.due), some (.fz (.int 0)), some (.lst [.fz (.lst (rowD f.pr)), .lst [], .lst [], .lst [], .lst [], .lst [], .lst [], .fz (pairD 0 1), .lst []]), some (.fz (.lst (rowD f.pr))), none] := by
    rw [x_if (t := true) (x_t2 (x_v (n := 2) rfl) x_k (x_ltb rfl)), if_pos rfl, x_cons s1]
    exact x_one s2
  have q3 : Ml.exec g37 (.ite (.o2 .in_ (.v 2) (.lst [.k (.int 0), .k (.int 3), .k (.int 4), .k (.int 5), .k (.int 6)])) [.asg false (.nm 4) (.bi .list [.ix (.v 1) (.v 2)])] []) [some (.fz (.str f.kind)), some (.fz f.due), some (.fz (.int 0)), some (.lst [.fz (.lst (rowD f.pr)), .lst [], .lst [], .lst [], .lst [], .lst [], .lst [], .fz (pairD 0 1), .lst []]), some (.fz (.lst (rowD f.pr))), none] = .nx [some (.fz (.str f.kind)), some (.fz f.due), some (.fz (.int 0)), some (.lst [.fz (.lst (rowD f.pr)), .lst [], .lst [], .lst [], .lst [], .lst [], .lst [], .fz (pairD 0 1), .lst []]), some (.lst (pairsO f.pr)), none] := by
    rw [x_if (t := true) rfl, if_pos rfl]
    refine x_one (x_set (x_bi1 (ix _ _ _) (bi_list rfl)) ?_)
    exact congrArg (fun l => some (O.lst l)) pairsO_map.symm
  have q4 : Ml.exec g37 (.ite (.o2 .in_ (.v 2) (.lst [.k (.int 1), .k (.int 2), .k (.int 8)])) [.asg false (.nm 4) (.call 28 [.ix (.v 1) (.v 2)])] []) [some (.fz (.str f.kind)), some (.fz f.due), some (.fz (.int 0)), some (.lst [.fz (.lst (rowD f.pr)), .lst [], .lst [], .lst [], .lst [], .lst [], .lst [], .fz (pairD 0 1), .lst []]), some (.lst (pairsO f.pr)), none] = .nx [some (.fz (.str f.kind)), some (.fz f.due), some (.fz (.int 0)), some (.lst [.fz (.lst (rowD f.pr)), .lst [], .lst [], .lst [], .lst [], .lst [], .lst [], .fz (pairD 0 1), .lst []]), some (.lst (pairsO f.pr)), none] := x_skip rfl
  have q5 : Ml.exec g37 (.callr (some 5) true (.fn 35) [.e (.v 0), .e (.v 2), .r 4]) [some (.fz (.str f.kind)), some (.fz f.due), some (.fz (.int 0)), some (.lst [.fz (.lst (rowD f.pr)), .lst [], .lst [], .lst [], .lst [], .lst [], .lst [], .fz (pairD 0 1), .lst []]), some (.lst (pairsO f.pr)), none] = .nx [some (.fz (.str f.kind)), some (.fz f.due), some (.fz (.int 0)), some (.lst [.fz (.lst (rowD f.pr)), .lst [], .lst [], .lst [], .lst [], .lst [], .lst [], .fz (pairD 0 1), .lst []]), some (.lst (pairsO f.pr)), some (.fz (one0 f).paper)] := x_callr (i := 5) (o := (one0 f).paperO) (st' := [some (.fz (.str f.kind)), some (.fz f.due), some (.fz (.int 0)), some (.lst [.fz (.lst (rowD f.pr)), .lst [], .lst [], .lst [], .lst [], .lst [], .lst [], .fz (pairD 0 1), .lst []]), some (.lst (pairsO f.pr)), none]) (call_fn' (os := [.fz (.str f.kind), .fz (.int 0), .lst (pairsO f.pr)]) (g := f35) rfl (fun _ => rfl) (paper0_ok h) rfl)
  have q6 : Ml.exec g37 (.ite (.and (.o2 .lt (.v 2) (.k (.int 9))) (.o2 .ne (.v 4) (.ix (.v 1) (.v 2)))) [.ret (.k (.bl false))] []) [some (.fz (.str f.kind)), some (.fz f.due), some (.fz (.int 0)), some (.lst [.fz (.lst (rowD f.pr)), .lst [], .lst [], .lst [], .lst [], .lst [], .lst [], .fz (pairD 0 1), .lst []]), some (.lst (pairsO f.pr)), some (.fz (one0 f).paper)] = .nx [some (.fz (.str f.kind)), some (.fz f.due), some (.fz (.int 0)), some (.lst [.fz (.lst (rowD f.pr)), .lst [], .lst [], .lst [], .lst [], .lst [], .lst [], .fz (pairD 0 1), .lst []]), some (.lst (pairsO f.pr)), some (.fz (one0 f).paper)] := x_skip (x_tandt (x_t2 (x_v (n := 2) rfl) x_k (x_ltb rfl)) (x_t2 (x_v (n := 4) rfl) (ix _ _ _) (ne_self (d := .lst (rowD f.pr)) (congrArg D.lst (ds_pairsO _)) rfl (Flat.row.eok (by decide)))))
  have q7 : Ml.exec g37 (.ite (.o2 .in_ (.v 2) (.lst [.k (.int 0), .k (.int 3), .k (.int 4), .k (.int 5), .k (.int 6)])) [.mut 4 [] .app [.k (.int 9)]] []) [some (.fz (.str f.kind)), some (.fz f.due), some (.fz (.int 0)), some (.lst [.fz (.lst (rowD f.pr)), .lst [], .lst [], .lst [], .lst [], .lst [], .lst [], .fz (pairD 0 1), .lst []]), some (.lst (pairsO f.pr)), some (.fz (one0 f).paper)] = .nx [some (.fz (.str f.kind)), some (.fz f.due), some (.fz (.int 0)), some (.lst [.fz (.lst (rowD f.pr)), .lst [], .lst [], .lst [], .lst [], .lst [], .lst [], .fz (pairD 0 1), .lst []]), some (.lst (pairsO f.pr ++ [.fz (.int 9)])), some (.fz (one0 f).paper)] := by
    rw [x_if (t := true) rfl, if_pos rfl]
    exact x_one (x_app (os := pairsO f.pr) (o := .fz (.int 9)) rfl (x := .my (.fz (.int 9))) rfl rfl (len5 h.pr))
  have q8 : Ml.exec g37 (.ite (.o2 .in_ (.v 2) (.lst [.k (.int 1), .k (.int 2), .k (.int 8)])) [.callr none true (.fn 30) [.r 4]] []) [some (.fz (.str f.kind)), some (.fz f.due), some (.fz (.int 0)), some (.lst [.fz (.lst (rowD f.pr)), .lst [], .lst [], .lst [], .lst [], .lst [], .lst [], .fz (pairD 0 1), .lst []]), some (.lst (pairsO f.pr ++ [.fz (.int 9)])), some (.fz (one0 f).paper)] = .nx [some (.fz (.str f.kind)), some (.fz f.due), some (.fz (.int 0)), some (.lst [.fz (.lst (rowD f.pr)), .lst [], .lst [], .lst [], .lst [], .lst [], .lst [], .fz (pairD 0 1), .lst []]), some (.lst (pairsO f.pr ++ [.fz (.int 9)])), some (.fz (one0 f).paper)] := x_skip rfl
  have q9 : Ml.exec g37 (.frz 3) [some (.fz (.str f.kind)), some (.fz f.due), some (.fz (.int 0)), some (.lst [.fz (.lst (rowD f.pr)), .lst [], .lst [], .lst [], .lst [], .lst [], .lst [], .fz (pairD 0 1), .lst []]), some (.lst (pairsO f.pr ++ [.fz (.int 9)])), some (.fz (one0 f).paper)] = .nx [some (.fz (.str f.kind)), some (.fz f.due), some (.fz (.int 0)), some (.fz (one0 f).due), some (.lst (pairsO f.pr ++ [.fz (.int 9)])), some (.fz (one0 f).paper)] := rfl
  refine run_ret (n := 6) (st := [some (.fz (.str f.kind)), some (.fz f.due), some (.fz (.int 0)), some (.fz (one0 f).due), some (.lst (pairsO f.pr ++ [.fz (.int 9)])), some (.fz (one0 f).paper)]) ?_
  show Ml.execs g37 c37 [some (.fz (.str f.kind)), some (.fz f.due), some (.fz (.int 0)), none, none, none] = _
  unfold c37
  rw [x_cons q0, x_cons q1, x_cons q2, x_cons q3, x_cons q4, x_cons q5, x_cons q6, x_cons q7, x_cons q8, x_cons q9]
  exact x_one (x_ret (call1 (x_es (x_v (n := 5) rfl) (x_es (x_v (n := 0) rfl) (x_es (x_v (n := 3) rfl) rfl))) rfl (fields_ok (one0_sm h))))

def one1 (f : Pf) : Pf := { kind := f.kind, pr := [], sh := f.sh, ot := [], pe := [], go := [], ta := [], we := [], fa := (0, 1), of := [] : Pf }
theorem one1_sm {f : Pf} (h : f.Sm) : (one1 f).Sm := ⟨Nat.zero_le _, h.sh, Sm.nil, Nat.zero_le _, Nat.zero_le _, Nat.zero_le _, Nat.zero_le _, Sm.nil, h.kind⟩
theorem paper1_ok {f : Pf} (h : f.Sm) : f35 [.fz (.str f.kind), .fz (.int 1), .lst (rowsO f.sh)] = .ok ((one1 f).paperO, [.lst (rowsO f.sh)]) := by
  have m : Ml.execs g6 c14 [some (.ins 0 [] []), some (.fz (.str f.kind)), some (.fz (.tup [])), some (.lst (rowsO f.sh)), some (.fz (.tup [])), some (.fz (.tup [])), some (.fz (.tup [])), some (.fz (.tup [])), some (.fz (.tup [])), some (.fz (pairD 0 1)), some (.fz (.tup []))] = _ := made_ok (f := one1 f) (fun _ => rfl) rfl rfl (Rw.own h.sh) Rw.no rfl rfl rfl rfl Rw.no
  have r : f6 [.ins 0 [] [], .fz (.str f.kind), .fz (.tup []), .lst (rowsO f.sh), .fz (.tup []), .fz (.tup []), .fz (.tup []), .fz (.tup []), .fz (.tup []), .fz (pairD 0 1), .fz (.tup [])] = .ok (.fz .non, [(one1 f).paperO, .lst (rowsO f.sh)]) := run_nx (n := 11) m rfl
  have cc : callA g35 (.kw 0 1) [.e (.v 0), .r 2] [some (.fz (.str f.kind)), some (.fz (.int 1)), some (.lst (rowsO f.sh))] = .ok ((one1 f).paperO, [some (.fz (.str f.kind)), some (.fz (.int 1)), some (.lst (rowsO f.sh))]) :=
    call_kw' (κ := ⟨6, 1, ["sharing"], [0, 1, 3, 2, 4, 5, 6, 7, 8, 9, 10], [.tup [], .tup [], .tup [], .tup [], .tup [], .tup [], .tup [.int 0, .int 1], .tup []]⟩) (g := f6) (os := [.fz (.str f.kind), .lst (rowsO f.sh)]) (os' := [.lst (rowsO f.sh)]) rfl rfl rfl (fun _ => rfl) r rfl
  refine run_ret' (n := 3) (st := [some (.fz (.str f.kind)), some (.fz (.int 1)), some (.lst (rowsO f.sh))]) ?_ rfl
  show Ml.execs g35 c35 [some (.fz (.str f.kind)), some (.fz (.int 1)), some (.lst (rowsO f.sh))] = _
  unfold c35
  rw [x_cons (x_skip (c := .o2 .eq (.v 1) (.k (.int 0))) (x_t2 (x_v (n := 1) rfl) x_k (x_eqb rfl)))]
  exact x_stop ((x_if (c := .o2 .eq (.v 1) (.k (.int 1))) (t := true) (x_t2 (x_v (n := 1) rfl) x_k (x_eqb rfl))).trans (x_one (x_retC cc))) (fun _ z => nomatch z)

theorem field1_ok {f : Pf} (h : f.Sm) : f37 [.fz (.str f.kind), .fz f.due, .fz (.int 1)] = .ok (.fz (.bl true), []) := by
  have q0 : Ml.exec g37 (.asg false (.nm 3) (.lst [.lst [], .lst [], .lst [], .lst [], .lst [], .lst [], .lst [], .tup [.k (.int 0), .k (.int 1)], .lst []])) [some (.fz (.str f.kind)), some (.fz f.due), some (.fz (.int 1)), none, none, none] = .nx [some (.fz (.str f.kind)), some (.fz f.due), some (.fz (.int 1)), some (.lst [.lst [], .lst [], .lst [], .lst [], .lst [], .lst [], .lst [], .fz (pairD 0 1), .lst []]), none, none] := rfl
  have q1 : Ml.exec g37 (.asg false (.nm 4) (.tup [])) [some (.fz (.str f.kind)), some (.fz f.due), some (.fz (.int 1)), some (.lst [.lst [], .lst [], .lst [], .lst [], .lst [], .lst [], .lst [], .fz (pairD 0 1), .lst []]), none, none] = .nx [some (.fz (.str f.kind)), some (.fz f.due), some (.fz (.int 1)), some (.lst [.lst [], .lst [], .lst [], .lst [], .lst [], .lst [], .lst [], .fz (pairD 0 1), .lst []]), some (.fz (.tup [])), none] := rfl
  have ix : ∀ (a b c : Option O), ev g37 (.ix (.v 1) (.v 2)) [some (.fz (.str f.kind)), some (.fz f.due), some (.fz (.int 1)), a, b, c] = .ok (.vw (.fz (.lst (rowsD f.sh)))) := fun _ _ _ => rfl
  have s1 : Ml.exec g37 (.seti 3 [] (.v 2) (.ix (.v 1) (.v 2))) [some (.fz (.str f.kind)), some (.fz f.due), some (.fz (.int 1)), some (.lst [.lst [], .lst [], .lst [], .lst [], .lst [], .lst [], .lst [], .fz (pairD 0 1), .lst []]), some (.fz (.tup [])), none] = .nx [some (.fz (.str f.kind)), some (.fz f.due), some (.fz (.int 1)), some (.lst [.lst [], .fz (.lst (rowsD f.sh)), .lst [], .lst [], .lst [], .lst [], .lst [], .fz (pairD 0 1), .lst []]), some (.fz (.tup [])), none] := x_seti (n := 3) (m := 1) (os := [.lst [], .lst [], .lst [], .lst [], .lst [], .lst [], .lst [], .fz (pairD 0 1), .lst []]) (o := .fz (.lst (rowsD f.sh))) (x := .vw (.fz (.lst (rowsD f.sh)))) (k := 1) (ix _ _ _) rfl rfl (x_v (n := 2) rfl) rfl rfl
  have s2 : Ml.exec g37 (.asg false (.nm 4) (.ix (.v 1) (.v 2))) [some (.fz (.str f.kind)), some (.fz f.due), some (.fz (.int 1)), some (.lst [.lst [], .fz (.lst (rowsD f.sh)), .lst [], .lst [], .lst [], .lst [], .lst [], .fz (pairD 0 1), .lst []]), some (.fz (.tup [])), none] = .nx [some (.fz (.str f.kind)), some (.fz f.due), some (.fz (.int 1)), some (.lst [.lst [], .fz (.lst (rowsD f.sh)), .lst [], .lst [], .lst [], .lst [], .lst [], .fz (pairD 0 1), .lst []]), some (.fz (.lst (rowsD f.sh))), none] := x_set (ix _ _ _) rfl
  have q2 : Ml.exec g37 (.ite (.o2 .lt (.v 2) (.k (.int 9))) [.seti 3 [] (.v 2) (.ix (.v 1) (.v 2)), .asg false (.nm 4) (.ix (.v 1) (.v 2))] []) [some (.fz (.str f.kind)), some (.fz f.due), some (.fz (.int 1)), some (.lst [.lst [], .lst [], .lst [], .lst [], .lst [], .lst [], .lst [], .fz (pairD 0 1), .lst []]), some (.fz (.tup [])), none] = .nx [some (.fz (.str f.kind)), some (.fz f.due), some (.fz (.int 1)), some (.lst [.lst [], .fz (.lst (rowsD f.sh)), .lst [], .lst [], .lst [], .lst [], .lst [], .fz (pairD 0 1), .lst []]), some (.fz (.lst (rowsD f.sh))), none] := by
    rw [x_if (t := true) (x_t2 (x_v (n := 2) rfl) x_k (x_ltb rfl)), if_pos rfl, x_cons s1]
    exact x_one s2
  have q3 : Ml.exec g37 (.ite (.o2 .in_ (.v 2) (.lst [.k (.int 0), .k (.int 3), .k (.int 4), .k (.int 5), .k (.int 6)])) [.asg false (.nm 4) (.bi .list [.ix (.v 1) (.v 2)])] []) [some (.fz (.str f.kind)), some (.fz f.due), some (.fz (.int 1)), some (.lst [.lst [], .fz (.lst (rowsD f.sh)), .lst [], .lst [], .lst [], .lst [], .lst [], .fz (pairD 0 1), .lst []]), some (.fz (.lst (rowsD f.sh))), none] = .nx [some (.fz (.str f.kind)), some (.fz f.due), some (.fz (.int 1)), some (.lst [.lst [], .fz (.lst (rowsD f.sh)), .lst [], .lst [], .lst [], .lst [], .lst [], .fz (pairD 0 1), .lst []]), some (.fz (.lst (rowsD f.sh))), none] := x_skip rfl
  have q4 : Ml.exec g37 (.ite (.o2 .in_ (.v 2) (.lst [.k (.int 1), .k (.int 2), .k (.int 8)])) [.asg false (.nm 4) (.call 28 [.ix (.v 1) (.v 2)])] []) [some (.fz (.str f.kind)), some (.fz f.due), some (.fz (.int 1)), some (.lst [.lst [], .fz (.lst (rowsD f.sh)), .lst [], .lst [], .lst [], .lst [], .lst [], .fz (pairD 0 1), .lst []]), some (.fz (.lst (rowsD f.sh))), none] = .nx [some (.fz (.str f.kind)), some (.fz f.due), some (.fz (.int 1)), some (.lst [.lst [], .fz (.lst (rowsD f.sh)), .lst [], .lst [], .lst [], .lst [], .lst [], .fz (pairD 0 1), .lst []]), some (.lst (rowsO f.sh)), none] := by
    rw [x_if (t := true) rfl, if_pos rfl]
    exact x_one (x_set (call1 (x_es (ix _ _ _) rfl) rfl (copied h.sh)) rfl)
  have q5 : Ml.exec g37 (.callr (some 5) true (.fn 35) [.e (.v 0), .e (.v 2), .r 4]) [some (.fz (.str f.kind)), some (.fz f.due), some (.fz (.int 1)), some (.lst [.lst [], .fz (.lst (rowsD f.sh)), .lst [], .lst [], .lst [], .lst [], .lst [], .fz (pairD 0 1), .lst []]), some (.lst (rowsO f.sh)), none] = .nx [some (.fz (.str f.kind)), some (.fz f.due), some (.fz (.int 1)), some (.lst [.lst [], .fz (.lst (rowsD f.sh)), .lst [], .lst [], .lst [], .lst [], .lst [], .fz (pairD 0 1), .lst []]), some (.lst (rowsO f.sh)), some (.fz (one1 f).paper)] := x_callr (i := 5) (o := (one1 f).paperO) (st' := [some (.fz (.str f.kind)), some (.fz f.due), some (.fz (.int 1)), some (.lst [.lst [], .fz (.lst (rowsD f.sh)), .lst [], .lst [], .lst [], .lst [], .lst [], .fz (pairD 0 1), .lst []]), some (.lst (rowsO f.sh)), none]) (call_fn' (os := [.fz (.str f.kind), .fz (.int 1), .lst (rowsO f.sh)]) (g := f35) rfl (fun _ => rfl) (paper1_ok h) rfl)
  have q6 : Ml.exec g37 (.ite (.and (.o2 .lt (.v 2) (.k (.int 9))) (.o2 .ne (.v 4) (.ix (.v 1) (.v 2)))) [.ret (.k (.bl false))] []) [some (.fz (.str f.kind)), some (.fz f.due), some (.fz (.int 1)), some (.lst [.lst [], .fz (.lst (rowsD f.sh)), .lst [], .lst [], .lst [], .lst [], .lst [], .fz (pairD 0 1), .lst []]), some (.lst (rowsO f.sh)), some (.fz (one1 f).paper)] = .nx [some (.fz (.str f.kind)), some (.fz f.due), some (.fz (.int 1)), some (.lst [.lst [], .fz (.lst (rowsD f.sh)), .lst [], .lst [], .lst [], .lst [], .lst [], .fz (pairD 0 1), .lst []]), some (.lst (rowsO f.sh)), some (.fz (one1 f).paper)] := x_skip (x_tandt (x_t2 (x_v (n := 2) rfl) x_k (x_ltb rfl)) (x_t2 (x_v (n := 4) rfl) (ix _ _ _) (ne_self (d := .lst (rowsD f.sh)) (congrArg D.lst (ds_rowsO _)) rfl (Flat.rows.eok (by decide)))))
  have q7 : Ml.exec g37 (.ite (.o2 .in_ (.v 2) (.lst [.k (.int 0), .k (.int 3), .k (.int 4), .k (.int 5), .k (.int 6)])) [.mut 4 [] .app [.k (.int 9)]] []) [some (.fz (.str f.kind)), some (.fz f.due), some (.fz (.int 1)), some (.lst [.lst [], .fz (.lst (rowsD f.sh)), .lst [], .lst [], .lst [], .lst [], .lst [], .fz (pairD 0 1), .lst []]), some (.lst (rowsO f.sh)), some (.fz (one1 f).paper)] = .nx [some (.fz (.str f.kind)), some (.fz f.due), some (.fz (.int 1)), some (.lst [.lst [], .fz (.lst (rowsD f.sh)), .lst [], .lst [], .lst [], .lst [], .lst [], .fz (pairD 0 1), .lst []]), some (.lst (rowsO f.sh)), some (.fz (one1 f).paper)] := x_skip rfl
  obtain ⟨o, ho⟩ := spoiled h.sh
  have q8 : Ml.exec g37 (.ite (.o2 .in_ (.v 2) (.lst [.k (.int 1), .k (.int 2), .k (.int 8)])) [.callr none true (.fn 30) [.r 4]] []) [some (.fz (.str f.kind)), some (.fz f.due), some (.fz (.int 1)), some (.lst [.lst [], .fz (.lst (rowsD f.sh)), .lst [], .lst [], .lst [], .lst [], .lst [], .fz (pairD 0 1), .lst []]), some (.lst (rowsO f.sh)), some (.fz (one1 f).paper)] = .nx [some (.fz (.str f.kind)), some (.fz f.due), some (.fz (.int 1)), some (.lst [.lst [], .fz (.lst (rowsD f.sh)), .lst [], .lst [], .lst [], .lst [], .lst [], .fz (pairD 0 1), .lst []]), some (o), some (.fz (one1 f).paper)] := by
    rw [x_if (t := true) rfl, if_pos rfl]
    exact x_one (x_calln (call_fn rfl ho rfl))
  have q9 : Ml.exec g37 (.frz 3) [some (.fz (.str f.kind)), some (.fz f.due), some (.fz (.int 1)), some (.lst [.lst [], .fz (.lst (rowsD f.sh)), .lst [], .lst [], .lst [], .lst [], .lst [], .fz (pairD 0 1), .lst []]), some (o), some (.fz (one1 f).paper)] = .nx [some (.fz (.str f.kind)), some (.fz f.due), some (.fz (.int 1)), some (.fz (one1 f).due), some (o), some (.fz (one1 f).paper)] := rfl
  refine run_ret (n := 6) (st := [some (.fz (.str f.kind)), some (.fz f.due), some (.fz (.int 1)), some (.fz (one1 f).due), some (o), some (.fz (one1 f).paper)]) ?_
  show Ml.execs g37 c37 [some (.fz (.str f.kind)), some (.fz f.due), some (.fz (.int 1)), none, none, none] = _
  unfold c37
  rw [x_cons q0, x_cons q1, x_cons q2, x_cons q3, x_cons q4, x_cons q5, x_cons q6, x_cons q7, x_cons q8, x_cons q9]
  exact x_one (x_ret (call1 (x_es (x_v (n := 5) rfl) (x_es (x_v (n := 0) rfl) (x_es (x_v (n := 3) rfl) rfl))) rfl (fields_ok (one1_sm h))))

def one2 (f : Pf) : Pf := { kind := f.kind, pr := [], sh := [], ot := f.ot, pe := [], go := [], ta := [], we := [], fa := (0, 1), of := [] : Pf }
theorem one2_sm {f : Pf} (h : f.Sm) : (one2 f).Sm := ⟨Nat.zero_le _, Sm.nil, h.ot, Nat.zero_le _, Nat.zero_le _, Nat.zero_le _, Nat.zero_le _, Sm.nil, h.kind⟩
theorem paper2_ok {f : Pf} (h : f.Sm) : f35 [.fz (.str f.kind), .fz (.int 2), .lst (rowsO f.ot)] = .ok ((one2 f).paperO, [.lst (rowsO f.ot)]) := by
  have m : Ml.execs g7 c14 [some (.ins 0 [] []), some (.fz (.str f.kind)), some (.fz (.tup [])), some (.fz (.tup [])), some (.lst (rowsO f.ot)), some (.fz (.tup [])), some (.fz (.tup [])), some (.fz (.tup [])), some (.fz (.tup [])), some (.fz (pairD 0 1)), some (.fz (.tup []))] = _ := made_ok (f := one2 f) (fun _ => rfl) rfl rfl Rw.no (Rw.own h.ot) rfl rfl rfl rfl Rw.no
  have r : f7 [.ins 0 [] [], .fz (.str f.kind), .fz (.tup []), .fz (.tup []), .lst (rowsO f.ot), .fz (.tup []), .fz (.tup []), .fz (.tup []), .fz (.tup []), .fz (pairD 0 1), .fz (.tup [])] = .ok (.fz .non, [(one2 f).paperO, .lst (rowsO f.ot)]) := run_nx (n := 11) m rfl
  have cc : callA g35 (.kw 0 2) [.e (.v 0), .r 2] [some (.fz (.str f.kind)), some (.fz (.int 2)), some (.lst (rowsO f.ot))] = .ok ((one2 f).paperO, [some (.fz (.str f.kind)), some (.fz (.int 2)), some (.lst (rowsO f.ot))]) :=
    call_kw' (κ := ⟨7, 1, ["other"], [0, 1, 3, 4, 2, 5, 6, 7, 8, 9, 10], [.tup [], .tup [], .tup [], .tup [], .tup [], .tup [], .tup [.int 0, .int 1], .tup []]⟩) (g := f7) (os := [.fz (.str f.kind), .lst (rowsO f.ot)]) (os' := [.lst (rowsO f.ot)]) rfl rfl rfl (fun _ => rfl) r rfl
  refine run_ret' (n := 3) (st := [some (.fz (.str f.kind)), some (.fz (.int 2)), some (.lst (rowsO f.ot))]) ?_ rfl
  show Ml.execs g35 c35 [some (.fz (.str f.kind)), some (.fz (.int 2)), some (.lst (rowsO f.ot))] = _
  unfold c35
  rw [x_cons (x_skip (c := .o2 .eq (.v 1) (.k (.int 0))) (x_t2 (x_v (n := 1) rfl) x_k (x_eqb rfl)))]
  rw [x_cons (x_skip (c := .o2 .eq (.v 1) (.k (.int 1))) (x_t2 (x_v (n := 1) rfl) x_k (x_eqb rfl)))]
  exact x_stop ((x_if (c := .o2 .eq (.v 1) (.k (.int 2))) (t := true) (x_t2 (x_v (n := 1) rfl) x_k (x_eqb rfl))).trans (x_one (x_retC cc))) (fun _ z => nomatch z)

theorem field2_ok {f : Pf} (h : f.Sm) : f37 [.fz (.str f.kind), .fz f.due, .fz (.int 2)] = .ok (.fz (.bl true), []) := by
  have q0 : Ml.exec g37 (.asg false (.nm 3) (.lst [.lst [], .lst [], .lst [], .lst [], .lst [], .lst [], .lst [], .tup [.k (.int 0), .k (.int 1)], .lst []])) [some (.fz (.str f.kind)), some (.fz f.due), some (.fz (.int 2)), none, none, none] = .nx [some (.fz (.str f.kind)), some (.fz f.due), some (.fz (.int 2)), some (.lst [.lst [], .lst [], .lst [], .lst [], .lst [], .lst [], .lst [], .fz (pairD 0 1), .lst []]), none, none] := rfl
  have q1 : Ml.exec g37 (.asg false (.nm 4) (.tup [])) [some (.fz (.str f.kind)), some (.fz f.due), some (.fz (.int 2)), some (.lst [.lst [], .lst [], .lst [], .lst [], .lst [], .lst [], .lst [], .fz (pairD 0 1), .lst []]), none, none] = .nx [some (.fz (.str f.kind)), some (.fz f.due), some (.fz (.int 2)), some (.lst [.lst [], .lst [], .lst [], .lst [], .lst [], .lst [], .lst [], .fz (pairD 0 1), .lst []]), some (.fz (.tup [])), none] := rfl
  have ix : ∀ (a b c : Option O), ev g37 (.ix (.v 1) (.v 2)) [some (.fz (.str f.kind)), some (.fz f.due), some (.fz (.int 2)), a, b, c] = .ok (.vw (.fz (.lst (rowsD f.ot)))) := fun _ _ _ => rfl
  have s1 : Ml.exec g37 (.seti 3 [] (.v 2) (.ix (.v 1) (.v 2))) [some (.fz (.str f.kind)), some (.fz f.due), some (.fz (.int 2)), some (.lst [.lst [], .lst [], .lst [], .lst [], .lst [], .lst [], .lst [], .fz (pairD 0 1), .lst []]), some (.fz (.tup [])), none] = .nx [some (.fz (.str f.kind)), some (.fz f.due), some (.fz (.int 2)), some (.lst [.lst [], .lst [], .fz (.lst (rowsD f.ot)), .lst [], .lst [], .lst [], .lst [], .fz (pairD 0 1), .lst []]), some (.fz (.tup [])), none] := x_seti (n := 3) (m := 2) (os := [.lst [], .lst [], .lst [], .lst [], .lst [], .lst [], .lst [], .fz (pairD 0 1), .lst []]) (o := .fz (.lst (rowsD f.ot))) (x := .vw (.fz (.lst (rowsD f.ot)))) (k := 2) (ix _ _ _) rfl rfl (x_v (n := 2) rfl) rfl rfl
  have s2 : Ml.exec g37 (.asg false (.nm 4) (.ix (.v 1) (.v 2))) [some (.fz (.str f.kind)), some (.fz f.due), some (.fz (.int 2)), some (.lst [.lst [], .lst [], .fz (.lst (rowsD f.ot)), .lst [], .lst [], .lst [], .lst [], .fz (pairD 0 1), .lst []]), some (.fz (.tup [])), none] = .nx [some (.fz (.str f.kind)), some (.fz f.due), some (.fz (.int 2)), some (.lst [.lst [], .lst [], .fz (.lst (rowsD f.ot)), .lst [], .lst [], .lst [], .lst [], .fz (pairD 0 1), .lst []]), some (.fz (.lst (rowsD f.ot))), none] := x_set (ix _ _ _) rfl
  have q2 : Ml.exec g37 (.ite (.o2 .lt (.v 2) (.k (.int 9))) [.seti 3 [] (.v 2) (.ix (.v 1) (.v 2)), .asg false (.nm 4) (.ix (.v 1) (.v 2))] []) [some (.fz (.str f.kind)), some (.fz f.due), some (.fz (.int 2)), some (.lst [.lst [], .lst [], .lst [], .lst [], .lst [], .lst [], .lst [], .fz (pairD 0 1), .lst []]), some (.fz (.tup [])), none] = .nx [some (.fz (.str f.kind)), some (.fz f.due), some (.fz (.int 2)), some (.lst [.lst [], .lst [], .fz (.lst (rowsD f.ot)), .lst [], .lst [], .lst [], .lst [], .fz (pairD 0 1), .lst []]), some (.fz (.lst (rowsD f.ot))), none] := by
    rw [x_if (t := true) (x_t2 (x_v (n := 2) rfl) x_k (x_ltb rfl)), if_pos rfl, x_cons s1]
    exact x_one s2
  have q3 : Ml.exec g37 (.ite (.o2 .in_ (.v 2) (.lst [.k (.int 0), .k (.int 3), .k (.int 4), .k (.int 5), .k (.int 6)])) [.asg false (.nm 4) (.bi .list [.ix (.v 1) (.v 2)])] []) [some (.fz (.str f.kind)), some (.fz f.due), some (.fz (.int 2)), some (.lst [.lst [], .lst [], .fz (.lst (rowsD f.ot)), .lst [], .lst [], .lst [], .lst [], .fz (pairD 0 1), .lst []]), some (.fz (.lst (rowsD f.ot))), none] = .nx [some (.fz (.str f.kind)), some (.fz f.due), some (.fz (.int 2)), some (.lst [.lst [], .lst [], .fz (.lst (rowsD f.ot)), .lst [], .lst [], .lst [], .lst [], .fz (pairD 0 1), .lst []]), some (.fz (.lst (rowsD f.ot))), none] := x_skip rfl
  have q4 : Ml.exec g37 (.ite (.o2 .in_ (.v 2) (.lst [.k (.int 1), .k (.int 2), .k (.int 8)])) [.asg false (.nm 4) (.call 28 [.ix (.v 1) (.v 2)])] []) [some (.fz (.str f.kind)), some (.fz f.due), some (.fz (.int 2)), some (.lst [.lst [], .lst [], .fz (.lst (rowsD f.ot)), .lst [], .lst [], .lst [], .lst [], .fz (pairD 0 1), .lst []]), some (.fz (.lst (rowsD f.ot))), none] = .nx [some (.fz (.str f.kind)), some (.fz f.due), some (.fz (.int 2)), some (.lst [.lst [], .lst [], .fz (.lst (rowsD f.ot)), .lst [], .lst [], .lst [], .lst [], .fz (pairD 0 1), .lst []]), some (.lst (rowsO f.ot)), none] := by
    rw [x_if (t := true) rfl, if_pos rfl]
    exact x_one (x_set (call1 (x_es (ix _ _ _) rfl) rfl (copied h.ot)) rfl)
  have q5 : Ml.exec g37 (.callr (some 5) true (.fn 35) [.e (.v 0), .e (.v 2), .r 4]) [some (.fz (.str f.kind)), some (.fz f.due), some (.fz (.int 2)), some (.lst [.lst [], .lst [], .fz (.lst (rowsD f.ot)), .lst [], .lst [], .lst [], .lst [], .fz (pairD 0 1), .lst []]), some (.lst (rowsO f.ot)), none] = .nx [some (.fz (.str f.kind)), some (.fz f.due), some (.fz (.int 2)), some (.lst [.lst [], .lst [], .fz (.lst (rowsD f.ot)), .lst [], .lst [], .lst [], .lst [], .fz (pairD 0 1), .lst []]), some (.lst (rowsO f.ot)), some (.fz (one2 f).paper)] := x_callr (i := 5) (o := (one2 f).paperO) (st' := [some (.fz (.str f.kind)), some (.fz f.due), some (.fz (.int 2)), some (.lst [.lst [], .lst [], .fz (.lst (rowsD f.ot)), .lst [], .lst [], .lst [], .lst [], .fz (pairD 0 1), .lst []]), some (.lst (rowsO f.ot)), none]) (call_fn' (os := [.fz (.str f.kind), .fz (.int 2), .lst (rowsO f.ot)]) (g := f35) rfl (fun _ => rfl) (paper2_ok h) rfl)
  have q6 : Ml.exec g37 (.ite (.and (.o2 .lt (.v 2) (.k (.int 9))) (.o2 .ne (.v 4) (.ix (.v 1) (.v 2)))) [.ret (.k (.bl false))] []) [some (.fz (.str f.kind)), some (.fz f.due), some (.fz (.int 2)), some (.lst [.lst [], .lst [], .fz (.lst (rowsD f.ot)), .lst [], .lst [], .lst [], .lst [], .fz (pairD 0 1), .lst []]), some (.lst (rowsO f.ot)), some (.fz (one2 f).paper)] = .nx [some (.fz (.str f.kind)), some (.fz f.due), some (.fz (.int 2)), some (.lst [.lst [], .lst [], .fz (.lst (rowsD f.ot)), .lst [], .lst [], .lst [], .lst [], .fz (pairD 0 1), .lst []]), some (.lst (rowsO f.ot)), some (.fz (one2 f).paper)] := x_skip (x_tandt (x_t2 (x_v (n := 2) rfl) x_k (x_ltb rfl)) (x_t2 (x_v (n := 4) rfl) (ix _ _ _) (ne_self (d := .lst (rowsD f.ot)) (congrArg D.lst (ds_rowsO _)) rfl (Flat.rows.eok (by decide)))))
  have q7 : Ml.exec g37 (.ite (.o2 .in_ (.v 2) (.lst [.k (.int 0), .k (.int 3), .k (.int 4), .k (.int 5), .k (.int 6)])) [.mut 4 [] .app [.k (.int 9)]] []) [some (.fz (.str f.kind)), some (.fz f.due), some (.fz (.int 2)), some (.lst [.lst [], .lst [], .fz (.lst (rowsD f.ot)), .lst [], .lst [], .lst [], .lst [], .fz (pairD 0 1), .lst []]), some (.lst (rowsO f.ot)), some (.fz (one2 f).paper)] = .nx [some (.fz (.str f.kind)), some (.fz f.due), some (.fz (.int 2)), some (.lst [.lst [], .lst [], .fz (.lst (rowsD f.ot)), .lst [], .lst [], .lst [], .lst [], .fz (pairD 0 1), .lst []]), some (.lst (rowsO f.ot)), some (.fz (one2 f).paper)] := x_skip rfl
  obtain ⟨o, ho⟩ := spoiled h.ot
  have q8 : Ml.exec g37 (.ite (.o2 .in_ (.v 2) (.lst [.k (.int 1), .k (.int 2), .k (.int 8)])) [.callr none true (.fn 30) [.r 4]] []) [some (.fz (.str f.kind)), some (.fz f.due), some (.fz (.int 2)), some (.lst [.lst [], .lst [], .fz (.lst (rowsD f.ot)), .lst [], .lst [], .lst [], .lst [], .fz (pairD 0 1), .lst []]), some (.lst (rowsO f.ot)), some (.fz (one2 f).paper)] = .nx [some (.fz (.str f.kind)), some (.fz f.due), some (.fz (.int 2)), some (.lst [.lst [], .lst [], .fz (.lst (rowsD f.ot)), .lst [], .lst [], .lst [], .lst [], .fz (pairD 0 1), .lst []]), some (o), some (.fz (one2 f).paper)] := by
    rw [x_if (t := true) rfl, if_pos rfl]
    exact x_one (x_calln (call_fn rfl ho rfl))
  have q9 : Ml.exec g37 (.frz 3) [some (.fz (.str f.kind)), some (.fz f.due), some (.fz (.int 2)), some (.lst [.lst [], .lst [], .fz (.lst (rowsD f.ot)), .lst [], .lst [], .lst [], .lst [], .fz (pairD 0 1), .lst []]), some (o), some (.fz (one2 f).paper)] = .nx [some (.fz (.str f.kind)), some (.fz f.due), some (.fz (.int 2)), some (.fz (one2 f).due), some (o), some (.fz (one2 f).paper)] := rfl
  refine run_ret (n := 6) (st := [some (.fz (.str f.kind)), some (.fz f.due), some (.fz (.int 2)), some (.fz (one2 f).due), some (o), some (.fz (one2 f).paper)]) ?_
  show Ml.execs g37 c37 [some (.fz (.str f.kind)), some (.fz f.due), some (.fz (.int 2)), none, none, none] = _
  unfold c37
  rw [x_cons q0, x_cons q1, x_cons q2, x_cons q3, x_cons q4, x_cons q5, x_cons q6, x_cons q7, x_cons q8, x_cons q9]
  exact x_one (x_ret (call1 (x_es (x_v (n := 5) rfl) (x_es (x_v (n := 0) rfl) (x_es (x_v (n := 3) rfl) rfl))) rfl (fields_ok (one2_sm h))))

def one3 (f : Pf) : Pf := { kind := f.kind, pr := [], sh := [], ot := [], pe := f.pe, go := [], ta := [], we := [], fa := (0, 1), of := [] : Pf }
theorem one3_sm {f : Pf} (h : f.Sm) : (one3 f).Sm := ⟨Nat.zero_le _, Sm.nil, Sm.nil, h.pe, Nat.zero_le _, Nat.zero_le _, Nat.zero_le _, Sm.nil, h.kind⟩
theorem paper3_ok {f : Pf} (h : f.Sm) : f35 [.fz (.str f.kind), .fz (.int 3), .lst (intsO f.pe)] = .ok ((one3 f).paperO, [.lst (intsO f.pe)]) := by
  have m : Ml.execs g8 c14 [some (.ins 0 [] []), some (.fz (.str f.kind)), some (.fz (.tup [])), some (.fz (.tup [])), some (.fz (.tup [])), some (.lst (intsO f.pe)), some (.fz (.tup [])), some (.fz (.tup [])), some (.fz (.tup [])), some (.fz (pairD 0 1)), some (.fz (.tup []))] = _ := made_ok (f := one3 f) (fun _ => rfl) rfl rfl Rw.no Rw.no seq_intsO rfl rfl rfl Rw.no
  have r : f8 [.ins 0 [] [], .fz (.str f.kind), .fz (.tup []), .fz (.tup []), .fz (.tup []), .lst (intsO f.pe), .fz (.tup []), .fz (.tup []), .fz (.tup []), .fz (pairD 0 1), .fz (.tup [])] = .ok (.fz .non, [(one3 f).paperO, .lst (intsO f.pe)]) := run_nx (n := 11) m rfl
  have cc : callA g35 (.kw 0 3) [.e (.v 0), .r 2] [some (.fz (.str f.kind)), some (.fz (.int 3)), some (.lst (intsO f.pe))] = .ok ((one3 f).paperO, [some (.fz (.str f.kind)), some (.fz (.int 3)), some (.lst (intsO f.pe))]) :=
    call_kw' (κ := ⟨8, 1, ["people"], [0, 1, 3, 4, 5, 2, 6, 7, 8, 9, 10], [.tup [], .tup [], .tup [], .tup [], .tup [], .tup [], .tup [.int 0, .int 1], .tup []]⟩) (g := f8) (os := [.fz (.str f.kind), .lst (intsO f.pe)]) (os' := [.lst (intsO f.pe)]) rfl rfl rfl (fun _ => rfl) r rfl
  refine run_ret' (n := 3) (st := [some (.fz (.str f.kind)), some (.fz (.int 3)), some (.lst (intsO f.pe))]) ?_ rfl
  show Ml.execs g35 c35 [some (.fz (.str f.kind)), some (.fz (.int 3)), some (.lst (intsO f.pe))] = _
  unfold c35
  rw [x_cons (x_skip (c := .o2 .eq (.v 1) (.k (.int 0))) (x_t2 (x_v (n := 1) rfl) x_k (x_eqb rfl)))]
  rw [x_cons (x_skip (c := .o2 .eq (.v 1) (.k (.int 1))) (x_t2 (x_v (n := 1) rfl) x_k (x_eqb rfl)))]
  rw [x_cons (x_skip (c := .o2 .eq (.v 1) (.k (.int 2))) (x_t2 (x_v (n := 1) rfl) x_k (x_eqb rfl)))]
  exact x_stop ((x_if (c := .o2 .eq (.v 1) (.k (.int 3))) (t := true) (x_t2 (x_v (n := 1) rfl) x_k (x_eqb rfl))).trans (x_one (x_retC cc))) (fun _ z => nomatch z)

theorem field3_ok {f : Pf} (h : f.Sm) : f37 [.fz (.str f.kind), .fz f.due, .fz (.int 3)] = .ok (.fz (.bl true), []) := by
  have q0 : Ml.exec g37 (.asg false (.nm 3) (.lst [.lst [], .lst [], .lst [], .lst [], .lst [], .lst [], .lst [], .tup [.k (.int 0), .k (.int 1)], .lst []])) [some (.fz (.str f.kind)), some (.fz f.due), some (.fz (.int 3)), none, none, none] = .nx [some (.fz (.str f.kind)), some (.fz f.due), some (.fz (.int 3)), some (.lst [.lst [], .lst [], .lst [], .lst [], .lst [], .lst [], .lst [], .fz (pairD 0 1), .lst []]), none, none] := rfl
  have q1 : Ml.exec g37 (.asg false (.nm 4) (.tup [])) [some (.fz (.str f.kind)), some (.fz f.due), some (.fz (.int 3)), some (.lst [.lst [], .lst [], .lst [], .lst [], .lst [], .lst [], .lst [], .fz (pairD 0 1), .lst []]), none, none] = .nx [some (.fz (.str f.kind)), some (.fz f.due), some (.fz (.int 3)), some (.lst [.lst [], .lst [], .lst [], .lst [], .lst [], .lst [], .lst [], .fz (pairD 0 1), .lst []]), some (.fz (.tup [])), none] := rfl
  have ix : ∀ (a b c : Option O), ev g37 (.ix (.v 1) (.v 2)) [some (.fz (.str f.kind)), some (.fz f.due), some (.fz (.int 3)), a, b, c] = .ok (.vw (.fz (.lst (intsD' f.pe)))) := fun _ _ _ => rfl
  have s1 : Ml.exec g37 (.seti 3 [] (.v 2) (.ix (.v 1) (.v 2))) [some (.fz (.str f.kind)), some (.fz f.due), some (.fz (.int 3)), some (.lst [.lst [], .lst [], .lst [], .lst [], .lst [], .lst [], .lst [], .fz (pairD 0 1), .lst []]), some (.fz (.tup [])), none] = .nx [some (.fz (.str f.kind)), some (.fz f.due), some (.fz (.int 3)), some (.lst [.lst [], .lst [], .lst [], .fz (.lst (intsD' f.pe)), .lst [], .lst [], .lst [], .fz (pairD 0 1), .lst []]), some (.fz (.tup [])), none] := x_seti (n := 3) (m := 3) (os := [.lst [], .lst [], .lst [], .lst [], .lst [], .lst [], .lst [], .fz (pairD 0 1), .lst []]) (o := .fz (.lst (intsD' f.pe))) (x := .vw (.fz (.lst (intsD' f.pe)))) (k := 3) (ix _ _ _) rfl rfl (x_v (n := 2) rfl) rfl rfl
  have s2 : Ml.exec g37 (.asg false (.nm 4) (.ix (.v 1) (.v 2))) [some (.fz (.str f.kind)), some (.fz f.due), some (.fz (.int 3)), some (.lst [.lst [], .lst [], .lst [], .fz (.lst (intsD' f.pe)), .lst [], .lst [], .lst [], .fz (pairD 0 1), .lst []]), some (.fz (.tup [])), none] = .nx [some (.fz (.str f.kind)), some (.fz f.due), some (.fz (.int 3)), some (.lst [.lst [], .lst [], .lst [], .fz (.lst (intsD' f.pe)), .lst [], .lst [], .lst [], .fz (pairD 0 1), .lst []]), some (.fz (.lst (intsD' f.pe))), none] := x_set (ix _ _ _) rfl
  have q2 : Ml.exec g37 (.ite (.o2 .lt (.v 2) (.k (.int 9))) [.seti 3 [] (.v 2) (.ix (.v 1) (.v 2)), .asg false (.nm 4) (.ix (.v 1) (.v 2))] []) [some (.fz (.str f.kind)), some (.fz f.due), some (.fz (.int 3)), some (.lst [.lst [], .lst [], .lst [], .lst [], .lst [], .lst [], .lst [], .fz (pairD 0 1), .lst []]), some (.fz (.tup [])), none] = .nx [some (.fz (.str f.kind)), some (.fz f.due), some (.fz (.int 3)), some (.lst [.lst [], .lst [], .lst [], .fz (.lst (intsD' f.pe)), .lst [], .lst [], .lst [], .fz (pairD 0 1), .lst []]), some (.fz (.lst (intsD' f.pe))), none] := by
    rw [x_if (t := true) (x_t2 (x_v (n := 2) rfl) x_k (x_ltb rfl)), if_pos rfl, x_cons s1]
    exact x_one s2
  have q3 : Ml.exec g37 (.ite (.o2 .in_ (.v 2) (.lst [.k (.int 0), .k (.int 3), .k (.int 4), .k (.int 5), .k (.int 6)])) [.asg false (.nm 4) (.bi .list [.ix (.v 1) (.v 2)])] []) [some (.fz (.str f.kind)), some (.fz f.due), some (.fz (.int 3)), some (.lst [.lst [], .lst [], .lst [], .fz (.lst (intsD' f.pe)), .lst [], .lst [], .lst [], .fz (pairD 0 1), .lst []]), some (.fz (.lst (intsD' f.pe))), none] = .nx [some (.fz (.str f.kind)), some (.fz f.due), some (.fz (.int 3)), some (.lst [.lst [], .lst [], .lst [], .fz (.lst (intsD' f.pe)), .lst [], .lst [], .lst [], .fz (pairD 0 1), .lst []]), some (.lst (intsO f.pe)), none] := by
    rw [x_if (t := true) rfl, if_pos rfl]
    refine x_one (x_set (x_bi1 (ix _ _ _) (bi_list rfl)) ?_)
    exact congrArg (fun l => some (O.lst l)) intsO_map.symm
  have q4 : Ml.exec g37 (.ite (.o2 .in_ (.v 2) (.lst [.k (.int 1), .k (.int 2), .k (.int 8)])) [.asg false (.nm 4) (.call 28 [.ix (.v 1) (.v 2)])] []) [some (.fz (.str f.kind)), some (.fz f.due), some (.fz (.int 3)), some (.lst [.lst [], .lst [], .lst [], .fz (.lst (intsD' f.pe)), .lst [], .lst [], .lst [], .fz (pairD 0 1), .lst []]), some (.lst (intsO f.pe)), none] = .nx [some (.fz (.str f.kind)), some (.fz f.due), some (.fz (.int 3)), some (.lst [.lst [], .lst [], .lst [], .fz (.lst (intsD' f.pe)), .lst [], .lst [], .lst [], .fz (pairD 0 1), .lst []]), some (.lst (intsO f.pe)), none] := x_skip rfl
  have q5 : Ml.exec g37 (.callr (some 5) true (.fn 35) [.e (.v 0), .e (.v 2), .r 4]) [some (.fz (.str f.kind)), some (.fz f.due), some (.fz (.int 3)), some (.lst [.lst [], .lst [], .lst [], .fz (.lst (intsD' f.pe)), .lst [], .lst [], .lst [], .fz (pairD 0 1), .lst []]), some (.lst (intsO f.pe)), none] = .nx [some (.fz (.str f.kind)), some (.fz f.due), some (.fz (.int 3)), some (.lst [.lst [], .lst [], .lst [], .fz (.lst (intsD' f.pe)), .lst [], .lst [], .lst [], .fz (pairD 0 1), .lst []]), some (.lst (intsO f.pe)), some (.fz (one3 f).paper)] := x_callr (i := 5) (o := (one3 f).paperO) (st' := [some (.fz (.str f.kind)), some (.fz f.due), some (.fz (.int 3)), some (.lst [.lst [], .lst [], .lst [], .fz (.lst (intsD' f.pe)), .lst [], .lst [], .lst [], .fz (pairD 0 1), .lst []]), some (.lst (intsO f.pe)), none]) (call_fn' (os := [.fz (.str f.kind), .fz (.int 3), .lst (intsO f.pe)]) (g := f35) rfl (fun _ => rfl) (paper3_ok h) rfl)
  have q6 : Ml.exec g37 (.ite (.and (.o2 .lt (.v 2) (.k (.int 9))) (.o2 .ne (.v 4) (.ix (.v 1) (.v 2)))) [.ret (.k (.bl false))] []) [some (.fz (.str f.kind)), some (.fz f.due), some (.fz (.int 3)), some (.lst [.lst [], .lst [], .lst [], .fz (.lst (intsD' f.pe)), .lst [], .lst [], .lst [], .fz (pairD 0 1), .lst []]), some (.lst (intsO f.pe)), some (.fz (one3 f).paper)] = .nx [some (.fz (.str f.kind)), some (.fz f.due), some (.fz (.int 3)), some (.lst [.lst [], .lst [], .lst [], .fz (.lst (intsD' f.pe)), .lst [], .lst [], .lst [], .fz (pairD 0 1), .lst []]), some (.lst (intsO f.pe)), some (.fz (one3 f).paper)] := x_skip (x_tandt (x_t2 (x_v (n := 2) rfl) x_k (x_ltb rfl)) (x_t2 (x_v (n := 4) rfl) (ix _ _ _) (ne_self (d := .lst (intsD' f.pe)) (congrArg D.lst (ds_intsO _)) rfl (Flat.ints.eok (by decide)))))
  have q7 : Ml.exec g37 (.ite (.o2 .in_ (.v 2) (.lst [.k (.int 0), .k (.int 3), .k (.int 4), .k (.int 5), .k (.int 6)])) [.mut 4 [] .app [.k (.int 9)]] []) [some (.fz (.str f.kind)), some (.fz f.due), some (.fz (.int 3)), some (.lst [.lst [], .lst [], .lst [], .fz (.lst (intsD' f.pe)), .lst [], .lst [], .lst [], .fz (pairD 0 1), .lst []]), some (.lst (intsO f.pe)), some (.fz (one3 f).paper)] = .nx [some (.fz (.str f.kind)), some (.fz f.due), some (.fz (.int 3)), some (.lst [.lst [], .lst [], .lst [], .fz (.lst (intsD' f.pe)), .lst [], .lst [], .lst [], .fz (pairD 0 1), .lst []]), some (.lst (intsO f.pe ++ [.fz (.int 9)])), some (.fz (one3 f).paper)] := by
    rw [x_if (t := true) rfl, if_pos rfl]
    exact x_one (x_app (os := intsO f.pe) (o := .fz (.int 9)) rfl (x := .my (.fz (.int 9))) rfl rfl (len5 h.pe))
  have q8 : Ml.exec g37 (.ite (.o2 .in_ (.v 2) (.lst [.k (.int 1), .k (.int 2), .k (.int 8)])) [.callr none true (.fn 30) [.r 4]] []) [some (.fz (.str f.kind)), some (.fz f.due), some (.fz (.int 3)), some (.lst [.lst [], .lst [], .lst [], .fz (.lst (intsD' f.pe)), .lst [], .lst [], .lst [], .fz (pairD 0 1), .lst []]), some (.lst (intsO f.pe ++ [.fz (.int 9)])), some (.fz (one3 f).paper)] = .nx [some (.fz (.str f.kind)), some (.fz f.due), some (.fz (.int 3)), some (.lst [.lst [], .lst [], .lst [], .fz (.lst (intsD' f.pe)), .lst [], .lst [], .lst [], .fz (pairD 0 1), .lst []]), some (.lst (intsO f.pe ++ [.fz (.int 9)])), some (.fz (one3 f).paper)] := x_skip rfl
  have q9 : Ml.exec g37 (.frz 3) [some (.fz (.str f.kind)), some (.fz f.due), some (.fz (.int 3)), some (.lst [.lst [], .lst [], .lst [], .fz (.lst (intsD' f.pe)), .lst [], .lst [], .lst [], .fz (pairD 0 1), .lst []]), some (.lst (intsO f.pe ++ [.fz (.int 9)])), some (.fz (one3 f).paper)] = .nx [some (.fz (.str f.kind)), some (.fz f.due), some (.fz (.int 3)), some (.fz (one3 f).due), some (.lst (intsO f.pe ++ [.fz (.int 9)])), some (.fz (one3 f).paper)] := rfl
  refine run_ret (n := 6) (st := [some (.fz (.str f.kind)), some (.fz f.due), some (.fz (.int 3)), some (.fz (one3 f).due), some (.lst (intsO f.pe ++ [.fz (.int 9)])), some (.fz (one3 f).paper)]) ?_
  show Ml.execs g37 c37 [some (.fz (.str f.kind)), some (.fz f.due), some (.fz (.int 3)), none, none, none] = _
  unfold c37
  rw [x_cons q0, x_cons q1, x_cons q2, x_cons q3, x_cons q4, x_cons q5, x_cons q6, x_cons q7, x_cons q8, x_cons q9]
  exact x_one (x_ret (call1 (x_es (x_v (n := 5) rfl) (x_es (x_v (n := 0) rfl) (x_es (x_v (n := 3) rfl) rfl))) rfl (fields_ok (one3_sm h))))

def one4 (f : Pf) : Pf := { kind := f.kind, pr := [], sh := [], ot := [], pe := [], go := f.go, ta := [], we := [], fa := (0, 1), of := [] : Pf }
theorem one4_sm {f : Pf} (h : f.Sm) : (one4 f).Sm := ⟨Nat.zero_le _, Sm.nil, Sm.nil, Nat.zero_le _, h.go, Nat.zero_le _, Nat.zero_le _, Sm.nil, h.kind⟩
theorem paper4_ok {f : Pf} (h : f.Sm) : f35 [.fz (.str f.kind), .fz (.int 4), .lst (intsO f.go)] = .ok ((one4 f).paperO, [.lst (intsO f.go)]) := by
  have m : Ml.execs g9 c14 [some (.ins 0 [] []), some (.fz (.str f.kind)), some (.fz (.tup [])), some (.fz (.tup [])), some (.fz (.tup [])), some (.fz (.tup [])), some (.lst (intsO f.go)), some (.fz (.tup [])), some (.fz (.tup [])), some (.fz (pairD 0 1)), some (.fz (.tup []))] = _ := made_ok (f := one4 f) (fun _ => rfl) rfl rfl Rw.no Rw.no rfl seq_intsO rfl rfl Rw.no
  have r : f9 [.ins 0 [] [], .fz (.str f.kind), .fz (.tup []), .fz (.tup []), .fz (.tup []), .fz (.tup []), .lst (intsO f.go), .fz (.tup []), .fz (.tup []), .fz (pairD 0 1), .fz (.tup [])] = .ok (.fz .non, [(one4 f).paperO, .lst (intsO f.go)]) := run_nx (n := 11) m rfl
  have cc : callA g35 (.kw 0 4) [.e (.v 0), .r 2] [some (.fz (.str f.kind)), some (.fz (.int 4)), some (.lst (intsO f.go))] = .ok ((one4 f).paperO, [some (.fz (.str f.kind)), some (.fz (.int 4)), some (.lst (intsO f.go))]) :=
    call_kw' (κ := ⟨9, 1, ["goods"], [0, 1, 3, 4, 5, 6, 2, 7, 8, 9, 10], [.tup [], .tup [], .tup [], .tup [], .tup [], .tup [], .tup [.int 0, .int 1], .tup []]⟩) (g := f9) (os := [.fz (.str f.kind), .lst (intsO f.go)]) (os' := [.lst (intsO f.go)]) rfl rfl rfl (fun _ => rfl) r rfl
  refine run_ret' (n := 3) (st := [some (.fz (.str f.kind)), some (.fz (.int 4)), some (.lst (intsO f.go))]) ?_ rfl
  show Ml.execs g35 c35 [some (.fz (.str f.kind)), some (.fz (.int 4)), some (.lst (intsO f.go))] = _
  unfold c35
  rw [x_cons (x_skip (c := .o2 .eq (.v 1) (.k (.int 0))) (x_t2 (x_v (n := 1) rfl) x_k (x_eqb rfl)))]
  rw [x_cons (x_skip (c := .o2 .eq (.v 1) (.k (.int 1))) (x_t2 (x_v (n := 1) rfl) x_k (x_eqb rfl)))]
  rw [x_cons (x_skip (c := .o2 .eq (.v 1) (.k (.int 2))) (x_t2 (x_v (n := 1) rfl) x_k (x_eqb rfl)))]
  rw [x_cons (x_skip (c := .o2 .eq (.v 1) (.k (.int 3))) (x_t2 (x_v (n := 1) rfl) x_k (x_eqb rfl)))]
  exact x_stop ((x_if (c := .o2 .eq (.v 1) (.k (.int 4))) (t := true) (x_t2 (x_v (n := 1) rfl) x_k (x_eqb rfl))).trans (x_one (x_retC cc))) (fun _ z => nomatch z)

theorem field4_ok {f : Pf} (h : f.Sm) : f37 [.fz (.str f.kind), .fz f.due, .fz (.int 4)] = .ok (.fz (.bl true), []) := by
  have q0 : Ml.exec g37 (.asg false (.nm 3) (.lst [.lst [], .lst [], .lst [], .lst [], .lst [], .lst [], .lst [], .tup [.k (.int 0), .k (.int 1)], .lst []])) [some (.fz (.str f.kind)), some (.fz f.due), some (.fz (.int 4)), none, none, none] = .nx [some (.fz (.str f.kind)), some (.fz f.due), some (.fz (.int 4)), some (.lst [.lst [], .lst [], .lst [], .lst [], .lst [], .lst [], .lst [], .fz (pairD 0 1), .lst []]), none, none] := rfl
  have q1 : Ml.exec g37 (.asg false (.nm 4) (.tup [])) [some (.fz (.str f.kind)), some (.fz f.due), some (.fz (.int 4)), some (.lst [.lst [], .lst [], .lst [], .lst [], .lst [], .lst [], .lst [], .fz (pairD 0 1), .lst []]), none, none] = .nx [some (.fz (.str f.kind)), some (.fz f.due), some (.fz (.int 4)), some (.lst [.lst [], .lst [], .lst [], .lst [], .lst [], .lst [], .lst [], .fz (pairD 0 1), .lst []]), some (.fz (.tup [])), none] := rfl
  have ix : ∀ (a b c : Option O), ev g37 (.ix (.v 1) (.v 2)) [some (.fz (.str f.kind)), some (.fz f.due), some (.fz (.int 4)), a, b, c] = .ok (.vw (.fz (.lst (intsD' f.go)))) := fun _ _ _ => rfl
  have s1 : Ml.exec g37 (.seti 3 [] (.v 2) (.ix (.v 1) (.v 2))) [some (.fz (.str f.kind)), some (.fz f.due), some (.fz (.int 4)), some (.lst [.lst [], .lst [], .lst [], .lst [], .lst [], .lst [], .lst [], .fz (pairD 0 1), .lst []]), some (.fz (.tup [])), none] = .nx [some (.fz (.str f.kind)), some (.fz f.due), some (.fz (.int 4)), some (.lst [.lst [], .lst [], .lst [], .lst [], .fz (.lst (intsD' f.go)), .lst [], .lst [], .fz (pairD 0 1), .lst []]), some (.fz (.tup [])), none] := x_seti (n := 3) (m := 4) (os := [.lst [], .lst [], .lst [], .lst [], .lst [], .lst [], .lst [], .fz (pairD 0 1), .lst []]) (o := .fz (.lst (intsD' f.go))) (x := .vw (.fz (.lst (intsD' f.go)))) (k := 4) (ix _ _ _) rfl rfl (x_v (n := 2) rfl) rfl rfl
  have s2 : Ml.exec g37 (.asg false (.nm 4) (.ix (.v 1) (.v 2))) [some (.fz (.str f.kind)), some (.fz f.due), some (.fz (.int 4)), some (.lst [.lst [], .lst [], .lst [], .lst [], .fz (.lst (intsD' f.go)), .lst [], .lst [], .fz (pairD 0 1), .lst []]), some (.fz (.tup [])), none] = .nx [some (.fz (.str f.kind)), some (.fz f.due), some (.fz (.int 4)), some (.lst [.lst [], .lst [], .lst [], .lst [], .fz (.lst (intsD' f.go)), .lst [], .lst [], .fz (pairD 0 1), .lst []]), some (.fz (.lst (intsD' f.go))), none] := x_set (ix _ _ _) rfl
  have q2 : Ml.exec g37 (.ite (.o2 .lt (.v 2) (.k (.int 9))) [.seti 3 [] (.v 2) (.ix (.v 1) (.v 2)), .asg false (.nm 4) (.ix (.v 1) (.v 2))] []) [some (.fz (.str f.kind)), some (.fz f.due), some (.fz (.int 4)), some (.lst [.lst [], .lst [], .lst [], .lst [], .lst [], .lst [], .lst [], .fz (pairD 0 1), .lst []]), some (.fz (.tup [])), none] = .nx [some (.fz (.str f.kind)), some (.fz f.due), some (.fz (.int 4)), some (.lst [.lst [], .lst [], .lst [], .lst [], .fz (.lst (intsD' f.go)), .lst [], .lst [], .fz (pairD 0 1), .lst []]), some (.fz (.lst (intsD' f.go))), none] := by
    rw [x_if (t := true) (x_t2 (x_v (n := 2) rfl) x_k (x_ltb rfl)), if_pos rfl, x_cons s1]
    exact x_one s2
  have q3 : Ml.exec g37 (.ite (.o2 .in_ (.v 2) (.lst [.k (.int 0), .k (.int 3), .k (.int 4), .k (.int 5), .k (.int 6)])) [.asg false (.nm 4) (.bi .list [.ix (.v 1) (.v 2)])] []) [some (.fz (.str f.kind)), some (.fz f.due), some (.fz (.int 4)), some (.lst [.lst [], .lst [], .lst [], .lst [], .fz (.lst (intsD' f.go)), .lst [], .lst [], .fz (pairD 0 1), .lst []]), some (.fz (.lst (intsD' f.go))), none] = .nx [some (.fz (.str f.kind)), some (.fz f.due), some (.fz (.int 4)), some (.lst [.lst [], .lst [], .lst [], .lst [], .fz (.lst (intsD' f.go)), .lst [], .lst [], .fz (pairD 0 1), .lst []]), some (.lst (intsO f.go)), none] := by
    rw [x_if (t := true) rfl, if_pos rfl]
    refine x_one (x_set (x_bi1 (ix _ _ _) (bi_list rfl)) ?_)
    exact congrArg (fun l => some (O.lst l)) intsO_map.symm
  have q4 : Ml.exec g37 (.ite (.o2 .in_ (.v 2) (.lst [.k (.int 1), .k (.int 2), .k (.int 8)])) [.asg false (.nm 4) (.call 28 [.ix (.v 1) (.v 2)])] []) [some (.fz (.str f.kind)), some (.fz f.due), some (.fz (.int 4)), some (.lst [.lst [], .lst [], .lst [], .lst [], .fz (.lst (intsD' f.go)), .lst [], .lst [], .fz (pairD 0 1), .lst []]), some (.lst (intsO f.go)), none] = .nx [some (.fz (.str f.kind)), some (.fz f.due), some (.fz (.int 4)), some (.lst [.lst [], .lst [], .lst [], .lst [], .fz (.lst (intsD' f.go)), .lst [], .lst [], .fz (pairD 0 1), .lst []]), some (.lst (intsO f.go)), none] := x_skip rfl
  have q5 : Ml.exec g37 (.callr (some 5) true (.fn 35) [.e (.v 0), .e (.v 2), .r 4]) [some (.fz (.str f.kind)), some (.fz f.due), some (.fz (.int 4)), some (.lst [.lst [], .lst [], .lst [], .lst [], .fz (.lst (intsD' f.go)), .lst [], .lst [], .fz (pairD 0 1), .lst []]), some (.lst (intsO f.go)), none] = .nx [some (.fz (.str f.kind)), some (.fz f.due), some (.fz (.int 4)), some (.lst [.lst [], .lst [], .lst [], .lst [], .fz (.lst (intsD' f.go)), .lst [], .lst [], .fz (pairD 0 1), .lst []]), some (.lst (intsO f.go)), some (.fz (one4 f).paper)] := x_callr (i := 5) (o := (one4 f).paperO) (st' := [some (.fz (.str f.kind)), some (.fz f.due), some (.fz (.int 4)), some (.lst [.lst [], .lst [], .lst [], .lst [], .fz (.lst (intsD' f.go)), .lst [], .lst [], .fz (pairD 0 1), .lst []]), some (.lst (intsO f.go)), none]) (call_fn' (os := [.fz (.str f.kind), .fz (.int 4), .lst (intsO f.go)]) (g := f35) rfl (fun _ => rfl) (paper4_ok h) rfl)
  have q6 : Ml.exec g37 (.ite (.and (.o2 .lt (.v 2) (.k (.int 9))) (.o2 .ne (.v 4) (.ix (.v 1) (.v 2)))) [.ret (.k (.bl false))] []) [some (.fz (.str f.kind)), some (.fz f.due), some (.fz (.int 4)), some (.lst [.lst [], .lst [], .lst [], .lst [], .fz (.lst (intsD' f.go)), .lst [], .lst [], .fz (pairD 0 1), .lst []]), some (.lst (intsO f.go)), some (.fz (one4 f).paper)] = .nx [some (.fz (.str f.kind)), some (.fz f.due), some (.fz (.int 4)), some (.lst [.lst [], .lst [], .lst [], .lst [], .fz (.lst (intsD' f.go)), .lst [], .lst [], .fz (pairD 0 1), .lst []]), some (.lst (intsO f.go)), some (.fz (one4 f).paper)] := x_skip (x_tandt (x_t2 (x_v (n := 2) rfl) x_k (x_ltb rfl)) (x_t2 (x_v (n := 4) rfl) (ix _ _ _) (ne_self (d := .lst (intsD' f.go)) (congrArg D.lst (ds_intsO _)) rfl (Flat.ints.eok (by decide)))))
  have q7 : Ml.exec g37 (.ite (.o2 .in_ (.v 2) (.lst [.k (.int 0), .k (.int 3), .k (.int 4), .k (.int 5), .k (.int 6)])) [.mut 4 [] .app [.k (.int 9)]] []) [some (.fz (.str f.kind)), some (.fz f.due), some (.fz (.int 4)), some (.lst [.lst [], .lst [], .lst [], .lst [], .fz (.lst (intsD' f.go)), .lst [], .lst [], .fz (pairD 0 1), .lst []]), some (.lst (intsO f.go)), some (.fz (one4 f).paper)] = .nx [some (.fz (.str f.kind)), some (.fz f.due), some (.fz (.int 4)), some (.lst [.lst [], .lst [], .lst [], .lst [], .fz (.lst (intsD' f.go)), .lst [], .lst [], .fz (pairD 0 1), .lst []]), some (.lst (intsO f.go ++ [.fz (.int 9)])), some (.fz (one4 f).paper)] := by
    rw [x_if (t := true) rfl, if_pos rfl]
    exact x_one (x_app (os := intsO f.go) (o := .fz (.int 9)) rfl (x := .my (.fz (.int 9))) rfl rfl (len5 h.go))
  have q8 : Ml.exec g37 (.ite (.o2 .in_ (.v 2) (.lst [.k (.int 1), .k (.int 2), .k (.int 8)])) [.callr none true (.fn 30) [.r 4]] []) [some (.fz (.str f.kind)), some (.fz f.due), some (.fz (.int 4)), some (.lst [.lst [], .lst [], .lst [], .lst [], .fz (.lst (intsD' f.go)), .lst [], .lst [], .fz (pairD 0 1), .lst []]), some (.lst (intsO f.go ++ [.fz (.int 9)])), some (.fz (one4 f).paper)] = .nx [some (.fz (.str f.kind)), some (.fz f.due), some (.fz (.int 4)), some (.lst [.lst [], .lst [], .lst [], .lst [], .fz (.lst (intsD' f.go)), .lst [], .lst [], .fz (pairD 0 1), .lst []]), some (.lst (intsO f.go ++ [.fz (.int 9)])), some (.fz (one4 f).paper)] := x_skip rfl
  have q9 : Ml.exec g37 (.frz 3) [some (.fz (.str f.kind)), some (.fz f.due), some (.fz (.int 4)), some (.lst [.lst [], .lst [], .lst [], .lst [], .fz (.lst (intsD' f.go)), .lst [], .lst [], .fz (pairD 0 1), .lst []]), some (.lst (intsO f.go ++ [.fz (.int 9)])), some (.fz (one4 f).paper)] = .nx [some (.fz (.str f.kind)), some (.fz f.due), some (.fz (.int 4)), some (.fz (one4 f).due), some (.lst (intsO f.go ++ [.fz (.int 9)])), some (.fz (one4 f).paper)] := rfl
  refine run_ret (n := 6) (st := [some (.fz (.str f.kind)), some (.fz f.due), some (.fz (.int 4)), some (.fz (one4 f).due), some (.lst (intsO f.go ++ [.fz (.int 9)])), some (.fz (one4 f).paper)]) ?_
  show Ml.execs g37 c37 [some (.fz (.str f.kind)), some (.fz f.due), some (.fz (.int 4)), none, none, none] = _
  unfold c37
  rw [x_cons q0, x_cons q1, x_cons q2, x_cons q3, x_cons q4, x_cons q5, x_cons q6, x_cons q7, x_cons q8, x_cons q9]
  exact x_one (x_ret (call1 (x_es (x_v (n := 5) rfl) (x_es (x_v (n := 0) rfl) (x_es (x_v (n := 3) rfl) rfl))) rfl (fields_ok (one4_sm h))))

def one5 (f : Pf) : Pf := { kind := f.kind, pr := [], sh := [], ot := [], pe := [], go := [], ta := f.ta, we := [], fa := (0, 1), of := [] : Pf }
theorem one5_sm {f : Pf} (h : f.Sm) : (one5 f).Sm := ⟨Nat.zero_le _, Sm.nil, Sm.nil, Nat.zero_le _, Nat.zero_le _, h.ta, Nat.zero_le _, Sm.nil, h.kind⟩
theorem paper5_ok {f : Pf} (h : f.Sm) : f35 [.fz (.str f.kind), .fz (.int 5), .lst (pairsO f.ta)] = .ok ((one5 f).paperO, [.lst (pairsO f.ta)]) := by
  have m : Ml.execs g10 c14 [some (.ins 0 [] []), some (.fz (.str f.kind)), some (.fz (.tup [])), some (.fz (.tup [])), some (.fz (.tup [])), some (.fz (.tup [])), some (.fz (.tup [])), some (.lst (pairsO f.ta)), some (.fz (.tup [])), some (.fz (pairD 0 1)), some (.fz (.tup []))] = _ := made_ok (f := one5 f) (fun _ => rfl) rfl rfl Rw.no Rw.no rfl rfl seq_pairsO rfl Rw.no
  have r : f10 [.ins 0 [] [], .fz (.str f.kind), .fz (.tup []), .fz (.tup []), .fz (.tup []), .fz (.tup []), .fz (.tup []), .lst (pairsO f.ta), .fz (.tup []), .fz (pairD 0 1), .fz (.tup [])] = .ok (.fz .non, [(one5 f).paperO, .lst (pairsO f.ta)]) := run_nx (n := 11) m rfl
  have cc : callA g35 (.kw 0 5) [.e (.v 0), .r 2] [some (.fz (.str f.kind)), some (.fz (.int 5)), some (.lst (pairsO f.ta))] = .ok ((one5 f).paperO, [some (.fz (.str f.kind)), some (.fz (.int 5)), some (.lst (pairsO f.ta))]) :=
    call_kw' (κ := ⟨10, 1, ["targets"], [0, 1, 3, 4, 5, 6, 7, 2, 8, 9, 10], [.tup [], .tup [], .tup [], .tup [], .tup [], .tup [], .tup [.int 0, .int 1], .tup []]⟩) (g := f10) (os := [.fz (.str f.kind), .lst (pairsO f.ta)]) (os' := [.lst (pairsO f.ta)]) rfl rfl rfl (fun _ => rfl) r rfl
  refine run_ret' (n := 3) (st := [some (.fz (.str f.kind)), some (.fz (.int 5)), some (.lst (pairsO f.ta))]) ?_ rfl
  show Ml.execs g35 c35 [some (.fz (.str f.kind)), some (.fz (.int 5)), some (.lst (pairsO f.ta))] = _
  unfold c35
  rw [x_cons (x_skip (c := .o2 .eq (.v 1) (.k (.int 0))) (x_t2 (x_v (n := 1) rfl) x_k (x_eqb rfl)))]
  rw [x_cons (x_skip (c := .o2 .eq (.v 1) (.k (.int 1))) (x_t2 (x_v (n := 1) rfl) x_k (x_eqb rfl)))]
  rw [x_cons (x_skip (c := .o2 .eq (.v 1) (.k (.int 2))) (x_t2 (x_v (n := 1) rfl) x_k (x_eqb rfl)))]
  rw [x_cons (x_skip (c := .o2 .eq (.v 1) (.k (.int 3))) (x_t2 (x_v (n := 1) rfl) x_k (x_eqb rfl)))]
  rw [x_cons (x_skip (c := .o2 .eq (.v 1) (.k (.int 4))) (x_t2 (x_v (n := 1) rfl) x_k (x_eqb rfl)))]
  exact x_stop ((x_if (c := .o2 .eq (.v 1) (.k (.int 5))) (t := true) (x_t2 (x_v (n := 1) rfl) x_k (x_eqb rfl))).trans (x_one (x_retC cc))) (fun _ z => nomatch z)

theorem field5_ok {f : Pf} (h : f.Sm) : f37 [.fz (.str f.kind), .fz f.due, .fz (.int 5)] = .ok (.fz (.bl true), []) := by
  have q0 : Ml.exec g37 (.asg false (.nm 3) (.lst [.lst [], .lst [], .lst [], .lst [], .lst [], .lst [], .lst [], .tup [.k (.int 0), .k (.int 1)], .lst []])) [some (.fz (.str f.kind)), some (.fz f.due), some (.fz (.int 5)), none, none, none] = .nx [some (.fz (.str f.kind)), some (.fz f.due), some (.fz (.int 5)), some (.lst [.lst [], .lst [], .lst [], .lst [], .lst [], .lst [], .lst [], .fz (pairD 0 1), .lst []]), none, none] := rfl
  have q1 : Ml.exec g37 (.asg false (.nm 4) (.tup [])) [some (.fz (.str f.kind)), some (.fz f.due), some (.fz (.int 5)), some (.lst [.lst [], .lst [], .lst [], .lst [], .lst [], .lst [], .lst [], .fz (pairD 0 1), .lst []]), none, none] = .nx [some (.fz (.str f.kind)), some (.fz f.due), some (.fz (.int 5)), some (.lst [.lst [], .lst [], .lst [], .lst [], .lst [], .lst [], .lst [], .fz (pairD 0 1), .lst []]), some (.fz (.tup [])), none] := rfl
  have ix : ∀ (a b c : Option O), ev g37 (.ix (.v 1) (.v 2)) [some (.fz (.str f.kind)), some (.fz f.due), some (.fz (.int 5)), a, b, c] = .ok (.vw (.fz (.lst (rowD f.ta)))) := fun _ _ _ => rfl
  have s1 : Ml.exec g37 (.seti 3 [] (.v 2) (.ix (.v 1) (.v 2))) [some (.fz (.str f.kind)), some (.fz f.due), some (.fz (.int 5)), some (.lst [.lst [], .lst [], .lst [], .lst [], .lst [], .lst [], .lst [], .fz (pairD 0 1), .lst []]), some (.fz (.tup [])), none] = .nx [some (.fz (.str f.kind)), some (.fz f.due), some (.fz (.int 5)), some (.lst [.lst [], .lst [], .lst [], .lst [], .lst [], .fz (.lst (rowD f.ta)), .lst [], .fz (pairD 0 1), .lst []]), some (.fz (.tup [])), none] := x_seti (n := 3) (m := 5) (os := [.lst [], .lst [], .lst [], .lst [], .lst [], .lst [], .lst [], .fz (pairD 0 1), .lst []]) (o := .fz (.lst (rowD f.ta))) (x := .vw (.fz (.lst (rowD f.ta)))) (k := 5) (ix _ _ _) rfl rfl (x_v (n := 2) rfl) rfl rfl
  have s2 : Ml.exec g37 (.asg false (.nm 4) (.ix (.v 1) (.v 2))) [some (.fz (.str f.kind)), some (.fz f.due), some (.fz (.int 5)), some (.lst [.lst [], .lst [], .lst [], .lst [], .lst [], .fz (.lst (rowD f.ta)), .lst [], .fz (pairD 0 1), .lst []]), some (.fz (.tup [])), none] = .nx [some (.fz (.str f.kind)), some (.fz f.due), some (.fz (.int 5)), some (.lst [.lst [], .lst [], .lst [], .lst [], .lst [], .fz (.lst (rowD f.ta)), .lst [], .fz (pairD 0 1), .lst []]), some (.fz (.lst (rowD f.ta))), none] := x_set (ix _ _ _) rfl
  have q2 : Ml.exec g37 (.ite (.o2 .lt (.v 2) (.k (.int 9))) [.seti 3 [] (.v 2) (.ix (.v 1) (.v 2)), .asg false (.nm 4) (.ix (.v 1) (.v 2))] []) [some (.fz (.str f.kind)), some (.fz f.due), some (.fz (.int 5)), some (.lst [.lst [], .lst [], .lst [], .lst [], .lst [], .lst [], .lst [], .fz (pairD 0 1), .lst []]), some (.fz (.tup [])), none] = .nx [some (.fz (.str f.kind)), some (.fz f.due), some (.fz (.int 5)), some (.lst [.lst [], .lst [], .lst [], .lst [], .lst [], .fz (.lst (rowD f.ta)), .lst [], .fz (pairD 0 1), .lst []]), some (.fz (.lst (rowD f.ta))), none] := by
    rw [x_if (t := true) (x_t2 (x_v (n := 2) rfl) x_k (x_ltb rfl)), if_pos rfl, x_cons s1]
    exact x_one s2
  have q3 : Ml.exec g37 (.ite (.o2 .in_ (.v 2) (.lst [.k (.int 0), .k (.int 3), .k (.int 4), .k (.int 5), .k (.int 6)])) [.asg false (.nm 4) (.bi .list [.ix (.v 1) (.v 2)])] []) [some (.fz (.str f.kind)), some (.fz f.due), some (.fz (.int 5)), some (.lst [.lst [], .lst [], .lst [], .lst [], .lst [], .fz (.lst (rowD f.ta)), .lst [], .fz (pairD 0 1), .lst []]), some (.fz (.lst (rowD f.ta))), none] = .nx [some (.fz (.str f.kind)), some (.fz f.due), some (.fz (.int 5)), some (.lst [.lst [], .lst [], .lst [], .lst [], .lst [], .fz (.lst (rowD f.ta)), .lst [], .fz (pairD 0 1), .lst []]), some (.lst (pairsO f.ta)), none] := by
    rw [x_if (t := true) rfl, if_pos rfl]
    refine x_one (x_set (x_bi1 (ix _ _ _) (bi_list rfl)) ?_)
    exact congrArg (fun l => some (O.lst l)) pairsO_map.symm
  have q4 : Ml.exec g37 (.ite (.o2 .in_ (.v 2) (.lst [.k (.int 1), .k (.int 2), .k (.int 8)])) [.asg false (.nm 4) (.call 28 [.ix (.v 1) (.v 2)])] []) [some (.fz (.str f.kind)), some (.fz f.due), some (.fz (.int 5)), some (.lst [.lst [], .lst [], .lst [], .lst [], .lst [], .fz (.lst (rowD f.ta)), .lst [], .fz (pairD 0 1), .lst []]), some (.lst (pairsO f.ta)), none] = .nx [some (.fz (.str f.kind)), some (.fz f.due), some (.fz (.int 5)), some (.lst [.lst [], .lst [], .lst [], .lst [], .lst [], .fz (.lst (rowD f.ta)), .lst [], .fz (pairD 0 1), .lst []]), some (.lst (pairsO f.ta)), none] := x_skip rfl
  have q5 : Ml.exec g37 (.callr (some 5) true (.fn 35) [.e (.v 0), .e (.v 2), .r 4]) [some (.fz (.str f.kind)), some (.fz f.due), some (.fz (.int 5)), some (.lst [.lst [], .lst [], .lst [], .lst [], .lst [], .fz (.lst (rowD f.ta)), .lst [], .fz (pairD 0 1), .lst []]), some (.lst (pairsO f.ta)), none] = .nx [some (.fz (.str f.kind)), some (.fz f.due), some (.fz (.int 5)), some (.lst [.lst [], .lst [], .lst [], .lst [], .lst [], .fz (.lst (rowD f.ta)), .lst [], .fz (pairD 0 1), .lst []]), some (.lst (pairsO f.ta)), some (.fz (one5 f).paper)] := x_callr (i := 5) (o := (one5 f).paperO) (st' := [some (.fz (.str f.kind)), some (.fz f.due), some (.fz (.int 5)), some (.lst [.lst [], .lst [], .lst [], .lst [], .lst [], .fz (.lst (rowD f.ta)), .lst [], .fz (pairD 0 1), .lst []]), some (.lst (pairsO f.ta)), none]) (call_fn' (os := [.fz (.str f.kind), .fz (.int 5), .lst (pairsO f.ta)]) (g := f35) rfl (fun _ => rfl) (paper5_ok h) rfl)
  have q6 : Ml.exec g37 (.ite (.and (.o2 .lt (.v 2) (.k (.int 9))) (.o2 .ne (.v 4) (.ix (.v 1) (.v 2)))) [.ret (.k (.bl false))] []) [some (.fz (.str f.kind)), some (.fz f.due), some (.fz (.int 5)), some (.lst [.lst [], .lst [], .lst [], .lst [], .lst [], .fz (.lst (rowD f.ta)), .lst [], .fz (pairD 0 1), .lst []]), some (.lst (pairsO f.ta)), some (.fz (one5 f).paper)] = .nx [some (.fz (.str f.kind)), some (.fz f.due), some (.fz (.int 5)), some (.lst [.lst [], .lst [], .lst [], .lst [], .lst [], .fz (.lst (rowD f.ta)), .lst [], .fz (pairD 0 1), .lst []]), some (.lst (pairsO f.ta)), some (.fz (one5 f).paper)] := x_skip (x_tandt (x_t2 (x_v (n := 2) rfl) x_k (x_ltb rfl)) (x_t2 (x_v (n := 4) rfl) (ix _ _ _) (ne_self (d := .lst (rowD f.ta)) (congrArg D.lst (ds_pairsO _)) rfl (Flat.row.eok (by decide)))))
  have q7 : Ml.exec g37 (.ite (.o2 .in_ (.v 2) (.lst [.k (.int 0), .k (.int 3), .k (.int 4), .k (.int 5), .k (.int 6)])) [.mut 4 [] .app [.k (.int 9)]] []) [some (.fz (.str f.kind)), some (.fz f.due), some (.fz (.int 5)), some (.lst [.lst [], .lst [], .lst [], .lst [], .lst [], .fz (.lst (rowD f.ta)), .lst [], .fz (pairD 0 1), .lst []]), some (.lst (pairsO f.ta)), some (.fz (one5 f).paper)] = .nx [some (.fz (.str f.kind)), some (.fz f.due), some (.fz (.int 5)), some (.lst [.lst [], .lst [], .lst [], .lst [], .lst [], .fz (.lst (rowD f.ta)), .lst [], .fz (pairD 0 1), .lst []]), some (.lst (pairsO f.ta ++ [.fz (.int 9)])), some (.fz (one5 f).paper)] := by
    rw [x_if (t := true) rfl, if_pos rfl]
    exact x_one (x_app (os := pairsO f.ta) (o := .fz (.int 9)) rfl (x := .my (.fz (.int 9))) rfl rfl (len5 h.ta))
  have q8 : Ml.exec g37 (.ite (.o2 .in_ (.v 2) (.lst [.k (.int 1), .k (.int 2), .k (.int 8)])) [.callr none true (.fn 30) [.r 4]] []) [some (.fz (.str f.kind)), some (.fz f.due), some (.fz (.int 5)), some (.lst [.lst [], .lst [], .lst [], .lst [], .lst [], .fz (.lst (rowD f.ta)), .lst [], .fz (pairD 0 1), .lst []]), some (.lst (pairsO f.ta ++ [.fz (.int 9)])), some (.fz (one5 f).paper)] = .nx [some (.fz (.str f.kind)), some (.fz f.due), some (.fz (.int 5)), some (.lst [.lst [], .lst [], .lst [], .lst [], .lst [], .fz (.lst (rowD f.ta)), .lst [], .fz (pairD 0 1), .lst []]), some (.lst (pairsO f.ta ++ [.fz (.int 9)])), some (.fz (one5 f).paper)] := x_skip rfl
  have q9 : Ml.exec g37 (.frz 3) [some (.fz (.str f.kind)), some (.fz f.due), some (.fz (.int 5)), some (.lst [.lst [], .lst [], .lst [], .lst [], .lst [], .fz (.lst (rowD f.ta)), .lst [], .fz (pairD 0 1), .lst []]), some (.lst (pairsO f.ta ++ [.fz (.int 9)])), some (.fz (one5 f).paper)] = .nx [some (.fz (.str f.kind)), some (.fz f.due), some (.fz (.int 5)), some (.fz (one5 f).due), some (.lst (pairsO f.ta ++ [.fz (.int 9)])), some (.fz (one5 f).paper)] := rfl
  refine run_ret (n := 6) (st := [some (.fz (.str f.kind)), some (.fz f.due), some (.fz (.int 5)), some (.fz (one5 f).due), some (.lst (pairsO f.ta ++ [.fz (.int 9)])), some (.fz (one5 f).paper)]) ?_
  show Ml.execs g37 c37 [some (.fz (.str f.kind)), some (.fz f.due), some (.fz (.int 5)), none, none, none] = _
  unfold c37
  rw [x_cons q0, x_cons q1, x_cons q2, x_cons q3, x_cons q4, x_cons q5, x_cons q6, x_cons q7, x_cons q8, x_cons q9]
  exact x_one (x_ret (call1 (x_es (x_v (n := 5) rfl) (x_es (x_v (n := 0) rfl) (x_es (x_v (n := 3) rfl) rfl))) rfl (fields_ok (one5_sm h))))

def one6 (f : Pf) : Pf := { kind := f.kind, pr := [], sh := [], ot := [], pe := [], go := [], ta := [], we := f.we, fa := (0, 1), of := [] : Pf }
theorem one6_sm {f : Pf} (h : f.Sm) : (one6 f).Sm := ⟨Nat.zero_le _, Sm.nil, Sm.nil, Nat.zero_le _, Nat.zero_le _, Nat.zero_le _, h.we, Sm.nil, h.kind⟩
theorem paper6_ok {f : Pf} (h : f.Sm) : f35 [.fz (.str f.kind), .fz (.int 6), .lst (pairsO f.we)] = .ok ((one6 f).paperO, [.lst (pairsO f.we)]) := by
  have m : Ml.execs g11 c14 [some (.ins 0 [] []), some (.fz (.str f.kind)), some (.fz (.tup [])), some (.fz (.tup [])), some (.fz (.tup [])), some (.fz (.tup [])), some (.fz (.tup [])), some (.fz (.tup [])), some (.lst (pairsO f.we)), some (.fz (pairD 0 1)), some (.fz (.tup []))] = _ := made_ok (f := one6 f) (fun _ => rfl) rfl rfl Rw.no Rw.no rfl rfl rfl seq_pairsO Rw.no
  have r : f11 [.ins 0 [] [], .fz (.str f.kind), .fz (.tup []), .fz (.tup []), .fz (.tup []), .fz (.tup []), .fz (.tup []), .fz (.tup []), .lst (pairsO f.we), .fz (pairD 0 1), .fz (.tup [])] = .ok (.fz .non, [(one6 f).paperO, .lst (pairsO f.we)]) := run_nx (n := 11) m rfl
  have cc : callA g35 (.kw 0 6) [.e (.v 0), .r 2] [some (.fz (.str f.kind)), some (.fz (.int 6)), some (.lst (pairsO f.we))] = .ok ((one6 f).paperO, [some (.fz (.str f.kind)), some (.fz (.int 6)), some (.lst (pairsO f.we))]) :=
    call_kw' (κ := ⟨11, 1, ["weights"], [0, 1, 3, 4, 5, 6, 7, 8, 2, 9, 10], [.tup [], .tup [], .tup [], .tup [], .tup [], .tup [], .tup [.int 0, .int 1], .tup []]⟩) (g := f11) (os := [.fz (.str f.kind), .lst (pairsO f.we)]) (os' := [.lst (pairsO f.we)]) rfl rfl rfl (fun _ => rfl) r rfl
  refine run_ret' (n := 3) (st := [some (.fz (.str f.kind)), some (.fz (.int 6)), some (.lst (pairsO f.we))]) ?_ rfl
  show Ml.execs g35 c35 [some (.fz (.str f.kind)), some (.fz (.int 6)), some (.lst (pairsO f.we))] = _
  unfold c35
  rw [x_cons (x_skip (c := .o2 .eq (.v 1) (.k (.int 0))) (x_t2 (x_v (n := 1) rfl) x_k (x_eqb rfl)))]
  rw [x_cons (x_skip (c := .o2 .eq (.v 1) (.k (.int 1))) (x_t2 (x_v (n := 1) rfl) x_k (x_eqb rfl)))]
  rw [x_cons (x_skip (c := .o2 .eq (.v 1) (.k (.int 2))) (x_t2 (x_v (n := 1) rfl) x_k (x_eqb rfl)))]
  rw [x_cons (x_skip (c := .o2 .eq (.v 1) (.k (.int 3))) (x_t2 (x_v (n := 1) rfl) x_k (x_eqb rfl)))]
  rw [x_cons (x_skip (c := .o2 .eq (.v 1) (.k (.int 4))) (x_t2 (x_v (n := 1) rfl) x_k (x_eqb rfl)))]
  rw [x_cons (x_skip (c := .o2 .eq (.v 1) (.k (.int 5))) (x_t2 (x_v (n := 1) rfl) x_k (x_eqb rfl)))]
  exact x_stop ((x_if (c := .o2 .eq (.v 1) (.k (.int 6))) (t := true) (x_t2 (x_v (n := 1) rfl) x_k (x_eqb rfl))).trans (x_one (x_retC cc))) (fun _ z => nomatch z)

theorem field6_ok {f : Pf} (h : f.Sm) : f37 [.fz (.str f.kind), .fz f.due, .fz (.int 6)] = .ok (.fz (.bl true), []) := by
  have q0 : Ml.exec g37 (.asg false (.nm 3) (.lst [.lst [], .lst [], .lst [], .lst [], .lst [], .lst [], .lst [], .tup [.k (.int 0), .k (.int 1)], .lst []])) [some (.fz (.str f.kind)), some (.fz f.due), some (.fz (.int 6)), none, none, none] = .nx [some (.fz (.str f.kind)), some (.fz f.due), some (.fz (.int 6)), some (.lst [.lst [], .lst [], .lst [], .lst [], .lst [], .lst [], .lst [], .fz (pairD 0 1), .lst []]), none, none] := rfl
  have q1 : Ml.exec g37 (.asg false (.nm 4) (.tup [])) [some (.fz (.str f.kind)), some (.fz f.due), some (.fz (.int 6)), some (.lst [.lst [], .lst [], .lst [], .lst [], .lst [], .lst [], .lst [], .fz (pairD 0 1), .lst []]), none, none] = .nx [some (.fz (.str f.kind)), some (.fz f.due), some (.fz (.int 6)), some (.lst [.lst [], .lst [], .lst [], .lst [], .lst [], .lst [], .lst [], .fz (pairD 0 1), .lst []]), some (.fz (.tup [])), none] := rfl
  have ix : ∀ (a b c : Option O), ev g37 (.ix (.v 1) (.v 2)) [some (.fz (.str f.kind)), some (.fz f.due), some (.fz (.int 6)), a, b, c] = .ok (.vw (.fz (.lst (rowD f.we)))) := fun _ _ _ => rfl
  have s1 : Ml.exec g37 (.seti 3 [] (.v 2) (.ix (.v 1) (.v 2))) [some (.fz (.str f.kind)), some (.fz f.due), some (.fz (.int 6)), some (.lst [.lst [], .lst [], .lst [], .lst [], .lst [], .lst [], .lst [], .fz (pairD 0 1), .lst []]), some (.fz (.tup [])), none] = .nx [some (.fz (.str f.kind)), some (.fz f.due), some (.fz (.int 6)), some (.lst [.lst [], .lst [], .lst [], .lst [], .lst [], .lst [], .fz (.lst (rowD f.we)), .fz (pairD 0 1), .lst []]), some (.fz (.tup [])), none] := x_seti (n := 3) (m := 6) (os := [.lst [], .lst [], .lst [], .lst [], .lst [], .lst [], .lst [], .fz (pairD 0 1), .lst []]) (o := .fz (.lst (rowD f.we))) (x := .vw (.fz (.lst (rowD f.we)))) (k := 6) (ix _ _ _) rfl rfl (x_v (n := 2) rfl) rfl rfl
  have s2 : Ml.exec g37 (.asg false (.nm 4) (.ix (.v 1) (.v 2))) [some (.fz (.str f.kind)), some (.fz f.due), some (.fz (.int 6)), some (.lst [.lst [], .lst [], .lst [], .lst [], .lst [], .lst [], .fz (.lst (rowD f.we)), .fz (pairD 0 1), .lst []]), some (.fz (.tup [])), none] = .nx [some (.fz (.str f.kind)), some (.fz f.due), some (.fz (.int 6)), some (.lst [.lst [], .lst [], .lst [], .lst [], .lst [], .lst [], .fz (.lst (rowD f.we)), .fz (pairD 0 1), .lst []]), some (.fz (.lst (rowD f.we))), none] := x_set (ix _ _ _) rfl
  have q2 : Ml.exec g37 (.ite (.o2 .lt (.v 2) (.k (.int 9))) [.seti 3 [] (.v 2) (.ix (.v 1) (.v 2)), .asg false (.nm 4) (.ix (.v 1) (.v 2))] []) [some (.fz (.str f.kind)), some (.fz f.due), some (.fz (.int 6)), some (.lst [.lst [], .lst [], .lst [], .lst [], .lst [], .lst [], .lst [], .fz (pairD 0 1), .lst []]), some (.fz (.tup [])), none] = .nx [some (.fz (.str f.kind)), some (.fz f.due), some (.fz (.int 6)), some (.lst [.lst [], .lst [], .lst [], .lst [], .lst [], .lst [], .fz (.lst (rowD f.we)), .fz (pairD 0 1), .lst []]), some (.fz (.lst (rowD f.we))), none] := by
    rw [x_if (t := true) (x_t2 (x_v (n := 2) rfl) x_k (x_ltb rfl)), if_pos rfl, x_cons s1]
    exact x_one s2
  have q3 : Ml.exec g37 (.ite (.o2 .in_ (.v 2) (.lst [.k (.int 0), .k (.int 3), .k (.int 4), .k (.int 5), .k (.int 6)])) [.asg false (.nm 4) (.bi .list [.ix (.v 1) (.v 2)])] []) [some (.fz (.str f.kind)), some (.fz f.due), some (.fz (.int 6)), some (.lst [.lst [], .lst [], .lst [], .lst [], .lst [], .lst [], .fz (.lst (rowD f.we)), .fz (pairD 0 1), .lst []]), some (.fz (.lst (rowD f.we))), none] = .nx [some (.fz (.str f.kind)), some (.fz f.due), some (.fz (.int 6)), some (.lst [.lst [], .lst [], .lst [], .lst [], .lst [], .lst [], .fz (.lst (rowD f.we)), .fz (pairD 0 1), .lst []]), some (.lst (pairsO f.we)), none] := by
    rw [x_if (t := true) rfl, if_pos rfl]
    refine x_one (x_set (x_bi1 (ix _ _ _) (bi_list rfl)) ?_)
    exact congrArg (fun l => some (O.lst l)) pairsO_map.symm
  have q4 : Ml.exec g37 (.ite (.o2 .in_ (.v 2) (.lst [.k (.int 1), .k (.int 2), .k (.int 8)])) [.asg false (.nm 4) (.call 28 [.ix (.v 1) (.v 2)])] []) [some (.fz (.str f.kind)), some (.fz f.due), some (.fz (.int 6)), some (.lst [.lst [], .lst [], .lst [], .lst [], .lst [], .lst [], .fz (.lst (rowD f.we)), .fz (pairD 0 1), .lst []]), some (.lst (pairsO f.we)), none] = .nx [some (.fz (.str f.kind)), some (.fz f.due), some (.fz (.int 6)), some (.lst [.lst [], .lst [], .lst [], .lst [], .lst [], .lst [], .fz (.lst (rowD f.we)), .fz (pairD 0 1), .lst []]), some (.lst (pairsO f.we)), none] := x_skip rfl
  have q5 : Ml.exec g37 (.callr (some 5) true (.fn 35) [.e (.v 0), .e (.v 2), .r 4]) [some (.fz (.str f.kind)), some (.fz f.due), some (.fz (.int 6)), some (.lst [.lst [], .lst [], .lst [], .lst [], .lst [], .lst [], .fz (.lst (rowD f.we)), .fz (pairD 0 1), .lst []]), some (.lst (pairsO f.we)), none] = .nx [some (.fz (.str f.kind)), some (.fz f.due), some (.fz (.int 6)), some (.lst [.lst [], .lst [], .lst [], .lst [], .lst [], .lst [], .fz (.lst (rowD f.we)), .fz (pairD 0 1), .lst []]), some (.lst (pairsO f.we)), some (.fz (one6 f).paper)] := x_callr (i := 5) (o := (one6 f).paperO) (st' := [some (.fz (.str f.kind)), some (.fz f.due), some (.fz (.int 6)), some (.lst [.lst [], .lst [], .lst [], .lst [], .lst [], .lst [], .fz (.lst (rowD f.we)), .fz (pairD 0 1), .lst []]), some (.lst (pairsO f.we)), none]) (call_fn' (os := [.fz (.str f.kind), .fz (.int 6), .lst (pairsO f.we)]) (g := f35) rfl (fun _ => rfl) (paper6_ok h) rfl)
  have q6 : Ml.exec g37 (.ite (.and (.o2 .lt (.v 2) (.k (.int 9))) (.o2 .ne (.v 4) (.ix (.v 1) (.v 2)))) [.ret (.k (.bl false))] []) [some (.fz (.str f.kind)), some (.fz f.due), some (.fz (.int 6)), some (.lst [.lst [], .lst [], .lst [], .lst [], .lst [], .lst [], .fz (.lst (rowD f.we)), .fz (pairD 0 1), .lst []]), some (.lst (pairsO f.we)), some (.fz (one6 f).paper)] = .nx [some (.fz (.str f.kind)), some (.fz f.due), some (.fz (.int 6)), some (.lst [.lst [], .lst [], .lst [], .lst [], .lst [], .lst [], .fz (.lst (rowD f.we)), .fz (pairD 0 1), .lst []]), some (.lst (pairsO f.we)), some (.fz (one6 f).paper)] := x_skip (x_tandt (x_t2 (x_v (n := 2) rfl) x_k (x_ltb rfl)) (x_t2 (x_v (n := 4) rfl) (ix _ _ _) (ne_self (d := .lst (rowD f.we)) (congrArg D.lst (ds_pairsO _)) rfl (Flat.row.eok (by decide)))))
  have q7 : Ml.exec g37 (.ite (.o2 .in_ (.v 2) (.lst [.k (.int 0), .k (.int 3), .k (.int 4), .k (.int 5), .k (.int 6)])) [.mut 4 [] .app [.k (.int 9)]] []) [some (.fz (.str f.kind)), some (.fz f.due), some (.fz (.int 6)), some (.lst [.lst [], .lst [], .lst [], .lst [], .lst [], .lst [], .fz (.lst (rowD f.we)), .fz (pairD 0 1), .lst []]), some (.lst (pairsO f.we)), some (.fz (one6 f).paper)] = .nx [some (.fz (.str f.kind)), some (.fz f.due), some (.fz (.int 6)), some (.lst [.lst [], .lst [], .lst [], .lst [], .lst [], .lst [], .fz (.lst (rowD f.we)), .fz (pairD 0 1), .lst []]), some (.lst (pairsO f.we ++ [.fz (.int 9)])), some (.fz (one6 f).paper)] := by
    rw [x_if (t := true) rfl, if_pos rfl]
    exact x_one (x_app (os := pairsO f.we) (o := .fz (.int 9)) rfl (x := .my (.fz (.int 9))) rfl rfl (len5 h.we))
  have q8 : Ml.exec g37 (.ite (.o2 .in_ (.v 2) (.lst [.k (.int 1), .k (.int 2), .k (.int 8)])) [.callr none true (.fn 30) [.r 4]] []) [some (.fz (.str f.kind)), some (.fz f.due), some (.fz (.int 6)), some (.lst [.lst [], .lst [], .lst [], .lst [], .lst [], .lst [], .fz (.lst (rowD f.we)), .fz (pairD 0 1), .lst []]), some (.lst (pairsO f.we ++ [.fz (.int 9)])), some (.fz (one6 f).paper)] = .nx [some (.fz (.str f.kind)), some (.fz f.due), some (.fz (.int 6)), some (.lst [.lst [], .lst [], .lst [], .lst [], .lst [], .lst [], .fz (.lst (rowD f.we)), .fz (pairD 0 1), .lst []]), some (.lst (pairsO f.we ++ [.fz (.int 9)])), some (.fz (one6 f).paper)] := x_skip rfl
  have q9 : Ml.exec g37 (.frz 3) [some (.fz (.str f.kind)), some (.fz f.due), some (.fz (.int 6)), some (.lst [.lst [], .lst [], .lst [], .lst [], .lst [], .lst [], .fz (.lst (rowD f.we)), .fz (pairD 0 1), .lst []]), some (.lst (pairsO f.we ++ [.fz (.int 9)])), some (.fz (one6 f).paper)] = .nx [some (.fz (.str f.kind)), some (.fz f.due), some (.fz (.int 6)), some (.fz (one6 f).due), some (.lst (pairsO f.we ++ [.fz (.int 9)])), some (.fz (one6 f).paper)] := rfl
  refine run_ret (n := 6) (st := [some (.fz (.str f.kind)), some (.fz f.due), some (.fz (.int 6)), some (.fz (one6 f).due), some (.lst (pairsO f.we ++ [.fz (.int 9)])), some (.fz (one6 f).paper)]) ?_
  show Ml.execs g37 c37 [some (.fz (.str f.kind)), some (.fz f.due), some (.fz (.int 6)), none, none, none] = _
  unfold c37
  rw [x_cons q0, x_cons q1, x_cons q2, x_cons q3, x_cons q4, x_cons q5, x_cons q6, x_cons q7, x_cons q8, x_cons q9]
  exact x_one (x_ret (call1 (x_es (x_v (n := 5) rfl) (x_es (x_v (n := 0) rfl) (x_es (x_v (n := 3) rfl) rfl))) rfl (fields_ok (one6_sm h))))

def one7 (f : Pf) : Pf := { kind := f.kind, pr := [], sh := [], ot := [], pe := [], go := [], ta := [], we := [], fa := f.fa, of := [] : Pf }
theorem one7_sm {f : Pf} (h : f.Sm) : (one7 f).Sm := ⟨Nat.zero_le _, Sm.nil, Sm.nil, Nat.zero_le _, Nat.zero_le _, Nat.zero_le _, Nat.zero_le _, Sm.nil, h.kind⟩
theorem paper7_ok {f : Pf} (h : f.Sm) : f35 [.fz (.str f.kind), .fz (.int 7), .fz (pairD f.fa.1 f.fa.2)] = .ok ((one7 f).paperO, [.fz (pairD f.fa.1 f.fa.2)]) := by
  have m : Ml.execs g12 c14 [some (.ins 0 [] []), some (.fz (.str f.kind)), some (.fz (.tup [])), some (.fz (.tup [])), some (.fz (.tup [])), some (.fz (.tup [])), some (.fz (.tup [])), some (.fz (.tup [])), some (.fz (.tup [])), some (.fz (pairD f.fa.1 f.fa.2)), some (.fz (.tup []))] = _ := made_ok (f := one7 f) (fun _ => rfl) rfl rfl Rw.no Rw.no rfl rfl rfl rfl Rw.no
  have r : f12 [.ins 0 [] [], .fz (.str f.kind), .fz (.tup []), .fz (.tup []), .fz (.tup []), .fz (.tup []), .fz (.tup []), .fz (.tup []), .fz (.tup []), .fz (pairD f.fa.1 f.fa.2), .fz (.tup [])] = .ok (.fz .non, [(one7 f).paperO, .fz (pairD f.fa.1 f.fa.2)]) := run_nx (n := 11) m rfl
  have cc : callA g35 (.kw 0 7) [.e (.v 0), .r 2] [some (.fz (.str f.kind)), some (.fz (.int 7)), some (.fz (pairD f.fa.1 f.fa.2))] = .ok ((one7 f).paperO, [some (.fz (.str f.kind)), some (.fz (.int 7)), some (.fz (pairD f.fa.1 f.fa.2))]) :=
    call_kw' (κ := ⟨12, 1, ["factor"], [0, 1, 3, 4, 5, 6, 7, 8, 9, 2, 10], [.tup [], .tup [], .tup [], .tup [], .tup [], .tup [], .tup [], .tup []]⟩) (g := f12) (os := [.fz (.str f.kind), .fz (pairD f.fa.1 f.fa.2)]) (os' := [.fz (pairD f.fa.1 f.fa.2)]) rfl rfl rfl (fun _ => rfl) r rfl
  refine run_ret' (n := 3) (st := [some (.fz (.str f.kind)), some (.fz (.int 7)), some (.fz (pairD f.fa.1 f.fa.2))]) ?_ rfl
  show Ml.execs g35 c35 [some (.fz (.str f.kind)), some (.fz (.int 7)), some (.fz (pairD f.fa.1 f.fa.2))] = _
  unfold c35
  rw [x_cons (x_skip (c := .o2 .eq (.v 1) (.k (.int 0))) (x_t2 (x_v (n := 1) rfl) x_k (x_eqb rfl)))]
  rw [x_cons (x_skip (c := .o2 .eq (.v 1) (.k (.int 1))) (x_t2 (x_v (n := 1) rfl) x_k (x_eqb rfl)))]
  rw [x_cons (x_skip (c := .o2 .eq (.v 1) (.k (.int 2))) (x_t2 (x_v (n := 1) rfl) x_k (x_eqb rfl)))]
  rw [x_cons (x_skip (c := .o2 .eq (.v 1) (.k (.int 3))) (x_t2 (x_v (n := 1) rfl) x_k (x_eqb rfl)))]
  rw [x_cons (x_skip (c := .o2 .eq (.v 1) (.k (.int 4))) (x_t2 (x_v (n := 1) rfl) x_k (x_eqb rfl)))]
  rw [x_cons (x_skip (c := .o2 .eq (.v 1) (.k (.int 5))) (x_t2 (x_v (n := 1) rfl) x_k (x_eqb rfl)))]
  rw [x_cons (x_skip (c := .o2 .eq (.v 1) (.k (.int 6))) (x_t2 (x_v (n := 1) rfl) x_k (x_eqb rfl)))]
  exact x_stop ((x_if (c := .o2 .eq (.v 1) (.k (.int 7))) (t := true) (x_t2 (x_v (n := 1) rfl) x_k (x_eqb rfl))).trans (x_one (x_retC cc))) (fun _ z => nomatch z)

theorem field7_ok {f : Pf} (h : f.Sm) : f37 [.fz (.str f.kind), .fz f.due, .fz (.int 7)] = .ok (.fz (.bl true), []) := by
  have q0 : Ml.exec g37 (.asg false (.nm 3) (.lst [.lst [], .lst [], .lst [], .lst [], .lst [], .lst [], .lst [], .tup [.k (.int 0), .k (.int 1)], .lst []])) [some (.fz (.str f.kind)), some (.fz f.due), some (.fz (.int 7)), none, none, none] = .nx [some (.fz (.str f.kind)), some (.fz f.due), some (.fz (.int 7)), some (.lst [.lst [], .lst [], .lst [], .lst [], .lst [], .lst [], .lst [], .fz (pairD 0 1), .lst []]), none, none] := rfl
  have q1 : Ml.exec g37 (.asg false (.nm 4) (.tup [])) [some (.fz (.str f.kind)), some (.fz f.due), some (.fz (.int 7)), some (.lst [.lst [], .lst [], .lst [], .lst [], .lst [], .lst [], .lst [], .fz (pairD 0 1), .lst []]), none, none] = .nx [some (.fz (.str f.kind)), some (.fz f.due), some (.fz (.int 7)), some (.lst [.lst [], .lst [], .lst [], .lst [], .lst [], .lst [], .lst [], .fz (pairD 0 1), .lst []]), some (.fz (.tup [])), none] := rfl
  have ix : ∀ (a b c : Option O), ev g37 (.ix (.v 1) (.v 2)) [some (.fz (.str f.kind)), some (.fz f.due), some (.fz (.int 7)), a, b, c] = .ok (.vw (.fz (pairD f.fa.1 f.fa.2))) := fun _ _ _ => rfl
  have s1 : Ml.exec g37 (.seti 3 [] (.v 2) (.ix (.v 1) (.v 2))) [some (.fz (.str f.kind)), some (.fz f.due), some (.fz (.int 7)), some (.lst [.lst [], .lst [], .lst [], .lst [], .lst [], .lst [], .lst [], .fz (pairD 0 1), .lst []]), some (.fz (.tup [])), none] = .nx [some (.fz (.str f.kind)), some (.fz f.due), some (.fz (.int 7)), some (.lst [.lst [], .lst [], .lst [], .lst [], .lst [], .lst [], .lst [], .fz (pairD f.fa.1 f.fa.2), .lst []]), some (.fz (.tup [])), none] := x_seti (n := 3) (m := 7) (os := [.lst [], .lst [], .lst [], .lst [], .lst [], .lst [], .lst [], .fz (pairD 0 1), .lst []]) (o := .fz (pairD f.fa.1 f.fa.2)) (x := .vw (.fz (pairD f.fa.1 f.fa.2))) (k := 7) (ix _ _ _) rfl rfl (x_v (n := 2) rfl) rfl rfl
  have s2 : Ml.exec g37 (.asg false (.nm 4) (.ix (.v 1) (.v 2))) [some (.fz (.str f.kind)), some (.fz f.due), some (.fz (.int 7)), some (.lst [.lst [], .lst [], .lst [], .lst [], .lst [], .lst [], .lst [], .fz (pairD f.fa.1 f.fa.2), .lst []]), some (.fz (.tup [])), none] = .nx [some (.fz (.str f.kind)), some (.fz f.due), some (.fz (.int 7)), some (.lst [.lst [], .lst [], .lst [], .lst [], .lst [], .lst [], .lst [], .fz (pairD f.fa.1 f.fa.2), .lst []]), some (.fz (pairD f.fa.1 f.fa.2)), none] := x_set (ix _ _ _) rfl
  have q2 : Ml.exec g37 (.ite (.o2 .lt (.v 2) (.k (.int 9))) [.seti 3 [] (.v 2) (.ix (.v 1) (.v 2)), .asg false (.nm 4) (.ix (.v 1) (.v 2))] []) [some (.fz (.str f.kind)), some (.fz f.due), some (.fz (.int 7)), some (.lst [.lst [], .lst [], .lst [], .lst [], .lst [], .lst [], .lst [], .fz (pairD 0 1), .lst []]), some (.fz (.tup [])), none] = .nx [some (.fz (.str f.kind)), some (.fz f.due), some (.fz (.int 7)), some (.lst [.lst [], .lst [], .lst [], .lst [], .lst [], .lst [], .lst [], .fz (pairD f.fa.1 f.fa.2), .lst []]), some (.fz (pairD f.fa.1 f.fa.2)), none] := by
    rw [x_if (t := true) (x_t2 (x_v (n := 2) rfl) x_k (x_ltb rfl)), if_pos rfl, x_cons s1]
    exact x_one s2
  have q3 : Ml.exec g37 (.ite (.o2 .in_ (.v 2) (.lst [.k (.int 0), .k (.int 3), .k (.int 4), .k (.int 5), .k (.int 6)])) [.asg false (.nm 4) (.bi .list [.ix (.v 1) (.v 2)])] []) [some (.fz (.str f.kind)), some (.fz f.due), some (.fz (.int 7)), some (.lst [.lst [], .lst [], .lst [], .lst [], .lst [], .lst [], .lst [], .fz (pairD f.fa.1 f.fa.2), .lst []]), some (.fz (pairD f.fa.1 f.fa.2)), none] = .nx [some (.fz (.str f.kind)), some (.fz f.due), some (.fz (.int 7)), some (.lst [.lst [], .lst [], .lst [], .lst [], .lst [], .lst [], .lst [], .fz (pairD f.fa.1 f.fa.2), .lst []]), some (.fz (pairD f.fa.1 f.fa.2)), none] := x_skip rfl
  have q4 : Ml.exec g37 (.ite (.o2 .in_ (.v 2) (.lst [.k (.int 1), .k (.int 2), .k (.int 8)])) [.asg false (.nm 4) (.call 28 [.ix (.v 1) (.v 2)])] []) [some (.fz (.str f.kind)), some (.fz f.due), some (.fz (.int 7)), some (.lst [.lst [], .lst [], .lst [], .lst [], .lst [], .lst [], .lst [], .fz (pairD f.fa.1 f.fa.2), .lst []]), some (.fz (pairD f.fa.1 f.fa.2)), none] = .nx [some (.fz (.str f.kind)), some (.fz f.due), some (.fz (.int 7)), some (.lst [.lst [], .lst [], .lst [], .lst [], .lst [], .lst [], .lst [], .fz (pairD f.fa.1 f.fa.2), .lst []]), some (.fz (pairD f.fa.1 f.fa.2)), none] := x_skip rfl
  have q5 : Ml.exec g37 (.callr (some 5) true (.fn 35) [.e (.v 0), .e (.v 2), .r 4]) [some (.fz (.str f.kind)), some (.fz f.due), some (.fz (.int 7)), some (.lst [.lst [], .lst [], .lst [], .lst [], .lst [], .lst [], .lst [], .fz (pairD f.fa.1 f.fa.2), .lst []]), some (.fz (pairD f.fa.1 f.fa.2)), none] = .nx [some (.fz (.str f.kind)), some (.fz f.due), some (.fz (.int 7)), some (.lst [.lst [], .lst [], .lst [], .lst [], .lst [], .lst [], .lst [], .fz (pairD f.fa.1 f.fa.2), .lst []]), some (.fz (pairD f.fa.1 f.fa.2)), some (.fz (one7 f).paper)] := x_callr (i := 5) (o := (one7 f).paperO) (st' := [some (.fz (.str f.kind)), some (.fz f.due), some (.fz (.int 7)), some (.lst [.lst [], .lst [], .lst [], .lst [], .lst [], .lst [], .lst [], .fz (pairD f.fa.1 f.fa.2), .lst []]), some (.fz (pairD f.fa.1 f.fa.2)), none]) (call_fn' (os := [.fz (.str f.kind), .fz (.int 7), .fz (pairD f.fa.1 f.fa.2)]) (g := f35) rfl (fun _ => rfl) (paper7_ok h) rfl)
  have q6 : Ml.exec g37 (.ite (.and (.o2 .lt (.v 2) (.k (.int 9))) (.o2 .ne (.v 4) (.ix (.v 1) (.v 2)))) [.ret (.k (.bl false))] []) [some (.fz (.str f.kind)), some (.fz f.due), some (.fz (.int 7)), some (.lst [.lst [], .lst [], .lst [], .lst [], .lst [], .lst [], .lst [], .fz (pairD f.fa.1 f.fa.2), .lst []]), some (.fz (pairD f.fa.1 f.fa.2)), some (.fz (one7 f).paper)] = .nx [some (.fz (.str f.kind)), some (.fz f.due), some (.fz (.int 7)), some (.lst [.lst [], .lst [], .lst [], .lst [], .lst [], .lst [], .lst [], .fz (pairD f.fa.1 f.fa.2), .lst []]), some (.fz (pairD f.fa.1 f.fa.2)), some (.fz (one7 f).paper)] := x_skip (x_tandt (x_t2 (x_v (n := 2) rfl) x_k (x_ltb rfl)) (x_t2 (x_v (n := 4) rfl) (ix _ _ _) (ne_self (d := pairD f.fa.1 f.fa.2) rfl rfl (Flat.pair.eok (by decide)))))
  have q7 : Ml.exec g37 (.ite (.o2 .in_ (.v 2) (.lst [.k (.int 0), .k (.int 3), .k (.int 4), .k (.int 5), .k (.int 6)])) [.mut 4 [] .app [.k (.int 9)]] []) [some (.fz (.str f.kind)), some (.fz f.due), some (.fz (.int 7)), some (.lst [.lst [], .lst [], .lst [], .lst [], .lst [], .lst [], .lst [], .fz (pairD f.fa.1 f.fa.2), .lst []]), some (.fz (pairD f.fa.1 f.fa.2)), some (.fz (one7 f).paper)] = .nx [some (.fz (.str f.kind)), some (.fz f.due), some (.fz (.int 7)), some (.lst [.lst [], .lst [], .lst [], .lst [], .lst [], .lst [], .lst [], .fz (pairD f.fa.1 f.fa.2), .lst []]), some (.fz (pairD f.fa.1 f.fa.2)), some (.fz (one7 f).paper)] := x_skip rfl
  have q8 : Ml.exec g37 (.ite (.o2 .in_ (.v 2) (.lst [.k (.int 1), .k (.int 2), .k (.int 8)])) [.callr none true (.fn 30) [.r 4]] []) [some (.fz (.str f.kind)), some (.fz f.due), some (.fz (.int 7)), some (.lst [.lst [], .lst [], .lst [], .lst [], .lst [], .lst [], .lst [], .fz (pairD f.fa.1 f.fa.2), .lst []]), some (.fz (pairD f.fa.1 f.fa.2)), some (.fz (one7 f).paper)] = .nx [some (.fz (.str f.kind)), some (.fz f.due), some (.fz (.int 7)), some (.lst [.lst [], .lst [], .lst [], .lst [], .lst [], .lst [], .lst [], .fz (pairD f.fa.1 f.fa.2), .lst []]), some (.fz (pairD f.fa.1 f.fa.2)), some (.fz (one7 f).paper)] := x_skip rfl
  have q9 : Ml.exec g37 (.frz 3) [some (.fz (.str f.kind)), some (.fz f.due), some (.fz (.int 7)), some (.lst [.lst [], .lst [], .lst [], .lst [], .lst [], .lst [], .lst [], .fz (pairD f.fa.1 f.fa.2), .lst []]), some (.fz (pairD f.fa.1 f.fa.2)), some (.fz (one7 f).paper)] = .nx [some (.fz (.str f.kind)), some (.fz f.due), some (.fz (.int 7)), some (.fz (one7 f).due), some (.fz (pairD f.fa.1 f.fa.2)), some (.fz (one7 f).paper)] := rfl
  refine run_ret (n := 6) (st := [some (.fz (.str f.kind)), some (.fz f.due), some (.fz (.int 7)), some (.fz (one7 f).due), some (.fz (pairD f.fa.1 f.fa.2)), some (.fz (one7 f).paper)]) ?_
  show Ml.execs g37 c37 [some (.fz (.str f.kind)), some (.fz f.due), some (.fz (.int 7)), none, none, none] = _
  unfold c37
  rw [x_cons q0, x_cons q1, x_cons q2, x_cons q3, x_cons q4, x_cons q5, x_cons q6, x_cons q7, x_cons q8, x_cons q9]
  exact x_one (x_ret (call1 (x_es (x_v (n := 5) rfl) (x_es (x_v (n := 0) rfl) (x_es (x_v (n := 3) rfl) rfl))) rfl (fields_ok (one7_sm h))))

def one8 (f : Pf) : Pf := { kind := f.kind, pr := [], sh := [], ot := [], pe := [], go := [], ta := [], we := [], fa := (0, 1), of := f.of : Pf }
theorem one8_sm {f : Pf} (h : f.Sm) : (one8 f).Sm := ⟨Nat.zero_le _, Sm.nil, Sm.nil, Nat.zero_le _, Nat.zero_le _, Nat.zero_le _, Nat.zero_le _, h.of, h.kind⟩
theorem paper8_ok {f : Pf} (h : f.Sm) : f35 [.fz (.str f.kind), .fz (.int 8), .lst (rowsO f.of)] = .ok ((one8 f).paperO, [.lst (rowsO f.of)]) := by
  have m : Ml.execs g13 c14 [some (.ins 0 [] []), some (.fz (.str f.kind)), some (.fz (.tup [])), some (.fz (.tup [])), some (.fz (.tup [])), some (.fz (.tup [])), some (.fz (.tup [])), some (.fz (.tup [])), some (.fz (.tup [])), some (.fz (pairD 0 1)), some (.lst (rowsO f.of))] = _ := made_ok (f := one8 f) (fun _ => rfl) rfl rfl Rw.no Rw.no rfl rfl rfl rfl (Rw.own h.of)
  have r : f13 [.ins 0 [] [], .fz (.str f.kind), .fz (.tup []), .fz (.tup []), .fz (.tup []), .fz (.tup []), .fz (.tup []), .fz (.tup []), .fz (.tup []), .fz (pairD 0 1), .lst (rowsO f.of)] = .ok (.fz .non, [(one8 f).paperO, .lst (rowsO f.of)]) := run_nx (n := 11) m rfl
  have cc : callA g35 (.kw 0 8) [.e (.v 0), .r 2] [some (.fz (.str f.kind)), some (.fz (.int 8)), some (.lst (rowsO f.of))] = .ok ((one8 f).paperO, [some (.fz (.str f.kind)), some (.fz (.int 8)), some (.lst (rowsO f.of))]) :=
    call_kw' (κ := ⟨13, 1, ["offer"], [0, 1, 3, 4, 5, 6, 7, 8, 9, 10, 2], [.tup [], .tup [], .tup [], .tup [], .tup [], .tup [], .tup [], .tup [.int 0, .int 1]]⟩) (g := f13) (os := [.fz (.str f.kind), .lst (rowsO f.of)]) (os' := [.lst (rowsO f.of)]) rfl rfl rfl (fun _ => rfl) r rfl
  refine run_ret' (n := 3) (st := [some (.fz (.str f.kind)), some (.fz (.int 8)), some (.lst (rowsO f.of))]) ?_ rfl
  show Ml.execs g35 c35 [some (.fz (.str f.kind)), some (.fz (.int 8)), some (.lst (rowsO f.of))] = _
  unfold c35
  rw [x_cons (x_skip (c := .o2 .eq (.v 1) (.k (.int 0))) (x_t2 (x_v (n := 1) rfl) x_k (x_eqb rfl)))]
  rw [x_cons (x_skip (c := .o2 .eq (.v 1) (.k (.int 1))) (x_t2 (x_v (n := 1) rfl) x_k (x_eqb rfl)))]
  rw [x_cons (x_skip (c := .o2 .eq (.v 1) (.k (.int 2))) (x_t2 (x_v (n := 1) rfl) x_k (x_eqb rfl)))]
  rw [x_cons (x_skip (c := .o2 .eq (.v 1) (.k (.int 3))) (x_t2 (x_v (n := 1) rfl) x_k (x_eqb rfl)))]
  rw [x_cons (x_skip (c := .o2 .eq (.v 1) (.k (.int 4))) (x_t2 (x_v (n := 1) rfl) x_k (x_eqb rfl)))]
  rw [x_cons (x_skip (c := .o2 .eq (.v 1) (.k (.int 5))) (x_t2 (x_v (n := 1) rfl) x_k (x_eqb rfl)))]
  rw [x_cons (x_skip (c := .o2 .eq (.v 1) (.k (.int 6))) (x_t2 (x_v (n := 1) rfl) x_k (x_eqb rfl)))]
  rw [x_cons (x_skip (c := .o2 .eq (.v 1) (.k (.int 7))) (x_t2 (x_v (n := 1) rfl) x_k (x_eqb rfl)))]
  exact x_stop ((x_if (c := .o2 .eq (.v 1) (.k (.int 8))) (t := true) (x_t2 (x_v (n := 1) rfl) x_k (x_eqb rfl))).trans (x_one (x_retC cc))) (fun _ z => nomatch z)

theorem field8_ok {f : Pf} (h : f.Sm) : f37 [.fz (.str f.kind), .fz f.due, .fz (.int 8)] = .ok (.fz (.bl true), []) := by
  have q0 : Ml.exec g37 (.asg false (.nm 3) (.lst [.lst [], .lst [], .lst [], .lst [], .lst [], .lst [], .lst [], .tup [.k (.int 0), .k (.int 1)], .lst []])) [some (.fz (.str f.kind)), some (.fz f.due), some (.fz (.int 8)), none, none, none] = .nx [some (.fz (.str f.kind)), some (.fz f.due), some (.fz (.int 8)), some (.lst [.lst [], .lst [], .lst [], .lst [], .lst [], .lst [], .lst [], .fz (pairD 0 1), .lst []]), none, none] := rfl
  have q1 : Ml.exec g37 (.asg false (.nm 4) (.tup [])) [some (.fz (.str f.kind)), some (.fz f.due), some (.fz (.int 8)), some (.lst [.lst [], .lst [], .lst [], .lst [], .lst [], .lst [], .lst [], .fz (pairD 0 1), .lst []]), none, none] = .nx [some (.fz (.str f.kind)), some (.fz f.due), some (.fz (.int 8)), some (.lst [.lst [], .lst [], .lst [], .lst [], .lst [], .lst [], .lst [], .fz (pairD 0 1), .lst []]), some (.fz (.tup [])), none] := rfl
  have ix : ∀ (a b c : Option O), ev g37 (.ix (.v 1) (.v 2)) [some (.fz (.str f.kind)), some (.fz f.due), some (.fz (.int 8)), a, b, c] = .ok (.vw (.fz (.lst (rowsD f.of)))) := fun _ _ _ => rfl
  have s1 : Ml.exec g37 (.seti 3 [] (.v 2) (.ix (.v 1) (.v 2))) [some (.fz (.str f.kind)), some (.fz f.due), some (.fz (.int 8)), some (.lst [.lst [], .lst [], .lst [], .lst [], .lst [], .lst [], .lst [], .fz (pairD 0 1), .lst []]), some (.fz (.tup [])), none] = .nx [some (.fz (.str f.kind)), some (.fz f.due), some (.fz (.int 8)), some (.lst [.lst [], .lst [], .lst [], .lst [], .lst [], .lst [], .lst [], .fz (pairD 0 1), .fz (.lst (rowsD f.of))]), some (.fz (.tup [])), none] := x_seti (n := 3) (m := 8) (os := [.lst [], .lst [], .lst [], .lst [], .lst [], .lst [], .lst [], .fz (pairD 0 1), .lst []]) (o := .fz (.lst (rowsD f.of))) (x := .vw (.fz (.lst (rowsD f.of)))) (k := 8) (ix _ _ _) rfl rfl (x_v (n := 2) rfl) rfl rfl
  have s2 : Ml.exec g37 (.asg false (.nm 4) (.ix (.v 1) (.v 2))) [some (.fz (.str f.kind)), some (.fz f.due), some (.fz (.int 8)), some (.lst [.lst [], .lst [], .lst [], .lst [], .lst [], .lst [], .lst [], .fz (pairD 0 1), .fz (.lst (rowsD f.of))]), some (.fz (.tup [])), none] = .nx [some (.fz (.str f.kind)), some (.fz f.due), some (.fz (.int 8)), some (.lst [.lst [], .lst [], .lst [], .lst [], .lst [], .lst [], .lst [], .fz (pairD 0 1), .fz (.lst (rowsD f.of))]), some (.fz (.lst (rowsD f.of))), none] := x_set (ix _ _ _) rfl
  have q2 : Ml.exec g37 (.ite (.o2 .lt (.v 2) (.k (.int 9))) [.seti 3 [] (.v 2) (.ix (.v 1) (.v 2)), .asg false (.nm 4) (.ix (.v 1) (.v 2))] []) [some (.fz (.str f.kind)), some (.fz f.due), some (.fz (.int 8)), some (.lst [.lst [], .lst [], .lst [], .lst [], .lst [], .lst [], .lst [], .fz (pairD 0 1), .lst []]), some (.fz (.tup [])), none] = .nx [some (.fz (.str f.kind)), some (.fz f.due), some (.fz (.int 8)), some (.lst [.lst [], .lst [], .lst [], .lst [], .lst [], .lst [], .lst [], .fz (pairD 0 1), .fz (.lst (rowsD f.of))]), some (.fz (.lst (rowsD f.of))), none] := by
    rw [x_if (t := true) (x_t2 (x_v (n := 2) rfl) x_k (x_ltb rfl)), if_pos rfl, x_cons s1]
    exact x_one s2
  have q3 : Ml.exec g37 (.ite (.o2 .in_ (.v 2) (.lst [.k (.int 0), .k (.int 3), .k (.int 4), .k (.int 5), .k (.int 6)])) [.asg false (.nm 4) (.bi .list [.ix (.v 1) (.v 2)])] []) [some (.fz (.str f.kind)), some (.fz f.due), some (.fz (.int 8)), some (.lst [.lst [], .lst [], .lst [], .lst [], .lst [], .lst [], .lst [], .fz (pairD 0 1), .fz (.lst (rowsD f.of))]), some (.fz (.lst (rowsD f.of))), none] = .nx [some (.fz (.str f.kind)), some (.fz f.due), some (.fz (.int 8)), some (.lst [.lst [], .lst [], .lst [], .lst [], .lst [], .lst [], .lst [], .fz (pairD 0 1), .fz (.lst (rowsD f.of))]), some (.fz (.lst (rowsD f.of))), none] := x_skip rfl
  have q4 : Ml.exec g37 (.ite (.o2 .in_ (.v 2) (.lst [.k (.int 1), .k (.int 2), .k (.int 8)])) [.asg false (.nm 4) (.call 28 [.ix (.v 1) (.v 2)])] []) [some (.fz (.str f.kind)), some (.fz f.due), some (.fz (.int 8)), some (.lst [.lst [], .lst [], .lst [], .lst [], .lst [], .lst [], .lst [], .fz (pairD 0 1), .fz (.lst (rowsD f.of))]), some (.fz (.lst (rowsD f.of))), none] = .nx [some (.fz (.str f.kind)), some (.fz f.due), some (.fz (.int 8)), some (.lst [.lst [], .lst [], .lst [], .lst [], .lst [], .lst [], .lst [], .fz (pairD 0 1), .fz (.lst (rowsD f.of))]), some (.lst (rowsO f.of)), none] := by
    rw [x_if (t := true) rfl, if_pos rfl]
    exact x_one (x_set (call1 (x_es (ix _ _ _) rfl) rfl (copied h.of)) rfl)
  have q5 : Ml.exec g37 (.callr (some 5) true (.fn 35) [.e (.v 0), .e (.v 2), .r 4]) [some (.fz (.str f.kind)), some (.fz f.due), some (.fz (.int 8)), some (.lst [.lst [], .lst [], .lst [], .lst [], .lst [], .lst [], .lst [], .fz (pairD 0 1), .fz (.lst (rowsD f.of))]), some (.lst (rowsO f.of)), none] = .nx [some (.fz (.str f.kind)), some (.fz f.due), some (.fz (.int 8)), some (.lst [.lst [], .lst [], .lst [], .lst [], .lst [], .lst [], .lst [], .fz (pairD 0 1), .fz (.lst (rowsD f.of))]), some (.lst (rowsO f.of)), some (.fz (one8 f).paper)] := x_callr (i := 5) (o := (one8 f).paperO) (st' := [some (.fz (.str f.kind)), some (.fz f.due), some (.fz (.int 8)), some (.lst [.lst [], .lst [], .lst [], .lst [], .lst [], .lst [], .lst [], .fz (pairD 0 1), .fz (.lst (rowsD f.of))]), some (.lst (rowsO f.of)), none]) (call_fn' (os := [.fz (.str f.kind), .fz (.int 8), .lst (rowsO f.of)]) (g := f35) rfl (fun _ => rfl) (paper8_ok h) rfl)
  have q6 : Ml.exec g37 (.ite (.and (.o2 .lt (.v 2) (.k (.int 9))) (.o2 .ne (.v 4) (.ix (.v 1) (.v 2)))) [.ret (.k (.bl false))] []) [some (.fz (.str f.kind)), some (.fz f.due), some (.fz (.int 8)), some (.lst [.lst [], .lst [], .lst [], .lst [], .lst [], .lst [], .lst [], .fz (pairD 0 1), .fz (.lst (rowsD f.of))]), some (.lst (rowsO f.of)), some (.fz (one8 f).paper)] = .nx [some (.fz (.str f.kind)), some (.fz f.due), some (.fz (.int 8)), some (.lst [.lst [], .lst [], .lst [], .lst [], .lst [], .lst [], .lst [], .fz (pairD 0 1), .fz (.lst (rowsD f.of))]), some (.lst (rowsO f.of)), some (.fz (one8 f).paper)] := x_skip (x_tandt (x_t2 (x_v (n := 2) rfl) x_k (x_ltb rfl)) (x_t2 (x_v (n := 4) rfl) (ix _ _ _) (ne_self (d := .lst (rowsD f.of)) (congrArg D.lst (ds_rowsO _)) rfl (Flat.rows.eok (by decide)))))
  have q7 : Ml.exec g37 (.ite (.o2 .in_ (.v 2) (.lst [.k (.int 0), .k (.int 3), .k (.int 4), .k (.int 5), .k (.int 6)])) [.mut 4 [] .app [.k (.int 9)]] []) [some (.fz (.str f.kind)), some (.fz f.due), some (.fz (.int 8)), some (.lst [.lst [], .lst [], .lst [], .lst [], .lst [], .lst [], .lst [], .fz (pairD 0 1), .fz (.lst (rowsD f.of))]), some (.lst (rowsO f.of)), some (.fz (one8 f).paper)] = .nx [some (.fz (.str f.kind)), some (.fz f.due), some (.fz (.int 8)), some (.lst [.lst [], .lst [], .lst [], .lst [], .lst [], .lst [], .lst [], .fz (pairD 0 1), .fz (.lst (rowsD f.of))]), some (.lst (rowsO f.of)), some (.fz (one8 f).paper)] := x_skip rfl
  obtain ⟨o, ho⟩ := spoiled h.of
  have q8 : Ml.exec g37 (.ite (.o2 .in_ (.v 2) (.lst [.k (.int 1), .k (.int 2), .k (.int 8)])) [.callr none true (.fn 30) [.r 4]] []) [some (.fz (.str f.kind)), some (.fz f.due), some (.fz (.int 8)), some (.lst [.lst [], .lst [], .lst [], .lst [], .lst [], .lst [], .lst [], .fz (pairD 0 1), .fz (.lst (rowsD f.of))]), some (.lst (rowsO f.of)), some (.fz (one8 f).paper)] = .nx [some (.fz (.str f.kind)), some (.fz f.due), some (.fz (.int 8)), some (.lst [.lst [], .lst [], .lst [], .lst [], .lst [], .lst [], .lst [], .fz (pairD 0 1), .fz (.lst (rowsD f.of))]), some (o), some (.fz (one8 f).paper)] := by
    rw [x_if (t := true) rfl, if_pos rfl]
    exact x_one (x_calln (call_fn rfl ho rfl))
  have q9 : Ml.exec g37 (.frz 3) [some (.fz (.str f.kind)), some (.fz f.due), some (.fz (.int 8)), some (.lst [.lst [], .lst [], .lst [], .lst [], .lst [], .lst [], .lst [], .fz (pairD 0 1), .fz (.lst (rowsD f.of))]), some (o), some (.fz (one8 f).paper)] = .nx [some (.fz (.str f.kind)), some (.fz f.due), some (.fz (.int 8)), some (.fz (one8 f).due), some (o), some (.fz (one8 f).paper)] := rfl
  refine run_ret (n := 6) (st := [some (.fz (.str f.kind)), some (.fz f.due), some (.fz (.int 8)), some (.fz (one8 f).due), some (o), some (.fz (one8 f).paper)]) ?_
  show Ml.execs g37 c37 [some (.fz (.str f.kind)), some (.fz f.due), some (.fz (.int 8)), none, none, none] = _
  unfold c37
  rw [x_cons q0, x_cons q1, x_cons q2, x_cons q3, x_cons q4, x_cons q5, x_cons q6, x_cons q7, x_cons q8, x_cons q9]
  exact x_one (x_ret (call1 (x_es (x_v (n := 5) rfl) (x_es (x_v (n := 0) rfl) (x_es (x_v (n := 3) rfl) rfl))) rfl (fields_ok (one8_sm h))))

def one9 (f : Pf) : Pf := { kind := f.kind, pr := [], sh := [], ot := [], pe := [], go := [], ta := [], we := [], fa := (0, 1), of := [] : Pf }
theorem one9_sm {f : Pf} (h : f.Sm) : (one9 f).Sm := ⟨Nat.zero_le _, Sm.nil, Sm.nil, Nat.zero_le _, Nat.zero_le _, Nat.zero_le _, Nat.zero_le _, Sm.nil, h.kind⟩
theorem paper9_ok {f : Pf} (h : f.Sm) : f35 [.fz (.str f.kind), .fz (.int 9), .fz (.tup [])] = .ok ((one9 f).paperO, [.fz (.tup [])]) := by
  have m : Ml.execs g14 c14 [some (.ins 0 [] []), some (.fz (.str f.kind)), some (.fz (.tup [])), some (.fz (.tup [])), some (.fz (.tup [])), some (.fz (.tup [])), some (.fz (.tup [])), some (.fz (.tup [])), some (.fz (.tup [])), some (.fz (pairD 0 1)), some (.fz (.tup []))] = _ := made_ok (f := one9 f) (fun _ => rfl) rfl rfl Rw.no Rw.no rfl rfl rfl rfl Rw.no
  have r : f14 [.ins 0 [] [], .fz (.str f.kind), .fz (.tup []), .fz (.tup []), .fz (.tup []), .fz (.tup []), .fz (.tup []), .fz (.tup []), .fz (.tup []), .fz (pairD 0 1), .fz (.tup [])] = .ok (.fz .non, [(one9 f).paperO]) := run_nx (n := 11) m rfl
  have cc : callA g35 (.kw 0 9) [.e (.v 0)] [some (.fz (.str f.kind)), some (.fz (.int 9)), some (.fz (.tup []))] = .ok ((one9 f).paperO, [some (.fz (.str f.kind)), some (.fz (.int 9)), some (.fz (.tup []))]) :=
    call_kw' (κ := ⟨14, 1, [], [0, 1, 2, 3, 4, 5, 6, 7, 8, 9, 10], [.tup [], .tup [], .tup [], .tup [], .tup [], .tup [], .tup [], .tup [.int 0, .int 1], .tup []]⟩) (g := f14) (os := [.fz (.str f.kind)]) (os' := []) rfl rfl rfl (fun _ => rfl) r rfl
  refine run_ret' (n := 3) (st := [some (.fz (.str f.kind)), some (.fz (.int 9)), some (.fz (.tup []))]) ?_ rfl
  show Ml.execs g35 c35 [some (.fz (.str f.kind)), some (.fz (.int 9)), some (.fz (.tup []))] = _
  unfold c35
  rw [x_cons (x_skip (c := .o2 .eq (.v 1) (.k (.int 0))) (x_t2 (x_v (n := 1) rfl) x_k (x_eqb rfl)))]
  rw [x_cons (x_skip (c := .o2 .eq (.v 1) (.k (.int 1))) (x_t2 (x_v (n := 1) rfl) x_k (x_eqb rfl)))]
  rw [x_cons (x_skip (c := .o2 .eq (.v 1) (.k (.int 2))) (x_t2 (x_v (n := 1) rfl) x_k (x_eqb rfl)))]
  rw [x_cons (x_skip (c := .o2 .eq (.v 1) (.k (.int 3))) (x_t2 (x_v (n := 1) rfl) x_k (x_eqb rfl)))]
  rw [x_cons (x_skip (c := .o2 .eq (.v 1) (.k (.int 4))) (x_t2 (x_v (n := 1) rfl) x_k (x_eqb rfl)))]
  rw [x_cons (x_skip (c := .o2 .eq (.v 1) (.k (.int 5))) (x_t2 (x_v (n := 1) rfl) x_k (x_eqb rfl)))]
  rw [x_cons (x_skip (c := .o2 .eq (.v 1) (.k (.int 6))) (x_t2 (x_v (n := 1) rfl) x_k (x_eqb rfl)))]
  rw [x_cons (x_skip (c := .o2 .eq (.v 1) (.k (.int 7))) (x_t2 (x_v (n := 1) rfl) x_k (x_eqb rfl)))]
  rw [x_cons (x_skip (c := .o2 .eq (.v 1) (.k (.int 8))) (x_t2 (x_v (n := 1) rfl) x_k (x_eqb rfl)))]
  exact x_one (x_retC cc)

theorem field9_ok {f : Pf} (h : f.Sm) : f37 [.fz (.str f.kind), .fz f.due, .fz (.int 9)] = .ok (.fz (.bl true), []) := by
  have q0 : Ml.exec g37 (.asg false (.nm 3) (.lst [.lst [], .lst [], .lst [], .lst [], .lst [], .lst [], .lst [], .tup [.k (.int 0), .k (.int 1)], .lst []])) [some (.fz (.str f.kind)), some (.fz f.due), some (.fz (.int 9)), none, none, none] = .nx [some (.fz (.str f.kind)), some (.fz f.due), some (.fz (.int 9)), some (.lst [.lst [], .lst [], .lst [], .lst [], .lst [], .lst [], .lst [], .fz (pairD 0 1), .lst []]), none, none] := rfl
  have q1 : Ml.exec g37 (.asg false (.nm 4) (.tup [])) [some (.fz (.str f.kind)), some (.fz f.due), some (.fz (.int 9)), some (.lst [.lst [], .lst [], .lst [], .lst [], .lst [], .lst [], .lst [], .fz (pairD 0 1), .lst []]), none, none] = .nx [some (.fz (.str f.kind)), some (.fz f.due), some (.fz (.int 9)), some (.lst [.lst [], .lst [], .lst [], .lst [], .lst [], .lst [], .lst [], .fz (pairD 0 1), .lst []]), some (.fz (.tup [])), none] := rfl
  have q2 : Ml.exec g37 (.ite (.o2 .lt (.v 2) (.k (.int 9))) [.seti 3 [] (.v 2) (.ix (.v 1) (.v 2)), .asg false (.nm 4) (.ix (.v 1) (.v 2))] []) [some (.fz (.str f.kind)), some (.fz f.due), some (.fz (.int 9)), some (.lst [.lst [], .lst [], .lst [], .lst [], .lst [], .lst [], .lst [], .fz (pairD 0 1), .lst []]), some (.fz (.tup [])), none] = .nx [some (.fz (.str f.kind)), some (.fz f.due), some (.fz (.int 9)), some (.lst [.lst [], .lst [], .lst [], .lst [], .lst [], .lst [], .lst [], .fz (pairD 0 1), .lst []]), some (.fz (.tup [])), none] := x_skip (x_t2 (x_v (n := 2) rfl) x_k (x_ltb rfl))
  have q3 : Ml.exec g37 (.ite (.o2 .in_ (.v 2) (.lst [.k (.int 0), .k (.int 3), .k (.int 4), .k (.int 5), .k (.int 6)])) [.asg false (.nm 4) (.bi .list [.ix (.v 1) (.v 2)])] []) [some (.fz (.str f.kind)), some (.fz f.due), some (.fz (.int 9)), some (.lst [.lst [], .lst [], .lst [], .lst [], .lst [], .lst [], .lst [], .fz (pairD 0 1), .lst []]), some (.fz (.tup [])), none] = .nx [some (.fz (.str f.kind)), some (.fz f.due), some (.fz (.int 9)), some (.lst [.lst [], .lst [], .lst [], .lst [], .lst [], .lst [], .lst [], .fz (pairD 0 1), .lst []]), some (.fz (.tup [])), none] := x_skip rfl
  have q4 : Ml.exec g37 (.ite (.o2 .in_ (.v 2) (.lst [.k (.int 1), .k (.int 2), .k (.int 8)])) [.asg false (.nm 4) (.call 28 [.ix (.v 1) (.v 2)])] []) [some (.fz (.str f.kind)), some (.fz f.due), some (.fz (.int 9)), some (.lst [.lst [], .lst [], .lst [], .lst [], .lst [], .lst [], .lst [], .fz (pairD 0 1), .lst []]), some (.fz (.tup [])), none] = .nx [some (.fz (.str f.kind)), some (.fz f.due), some (.fz (.int 9)), some (.lst [.lst [], .lst [], .lst [], .lst [], .lst [], .lst [], .lst [], .fz (pairD 0 1), .lst []]), some (.fz (.tup [])), none] := x_skip rfl
  have q5 : Ml.exec g37 (.callr (some 5) true (.fn 35) [.e (.v 0), .e (.v 2), .r 4]) [some (.fz (.str f.kind)), some (.fz f.due), some (.fz (.int 9)), some (.lst [.lst [], .lst [], .lst [], .lst [], .lst [], .lst [], .lst [], .fz (pairD 0 1), .lst []]), some (.fz (.tup [])), none] = .nx [some (.fz (.str f.kind)), some (.fz f.due), some (.fz (.int 9)), some (.lst [.lst [], .lst [], .lst [], .lst [], .lst [], .lst [], .lst [], .fz (pairD 0 1), .lst []]), some (.fz (.tup [])), some (.fz (one9 f).paper)] := x_callr (i := 5) (o := (one9 f).paperO) (st' := [some (.fz (.str f.kind)), some (.fz f.due), some (.fz (.int 9)), some (.lst [.lst [], .lst [], .lst [], .lst [], .lst [], .lst [], .lst [], .fz (pairD 0 1), .lst []]), some (.fz (.tup [])), none]) (call_fn' (os := [.fz (.str f.kind), .fz (.int 9), .fz (.tup [])]) (g := f35) rfl (fun _ => rfl) (paper9_ok h) rfl)
  have q6 : Ml.exec g37 (.ite (.and (.o2 .lt (.v 2) (.k (.int 9))) (.o2 .ne (.v 4) (.ix (.v 1) (.v 2)))) [.ret (.k (.bl false))] []) [some (.fz (.str f.kind)), some (.fz f.due), some (.fz (.int 9)), some (.lst [.lst [], .lst [], .lst [], .lst [], .lst [], .lst [], .lst [], .fz (pairD 0 1), .lst []]), some (.fz (.tup [])), some (.fz (one9 f).paper)] = .nx [some (.fz (.str f.kind)), some (.fz f.due), some (.fz (.int 9)), some (.lst [.lst [], .lst [], .lst [], .lst [], .lst [], .lst [], .lst [], .fz (pairD 0 1), .lst []]), some (.fz (.tup [])), some (.fz (one9 f).paper)] := x_skip (x_tandf (x_t2 (x_v (n := 2) rfl) x_k (x_ltb rfl)))
  have q7 : Ml.exec g37 (.ite (.o2 .in_ (.v 2) (.lst [.k (.int 0), .k (.int 3), .k (.int 4), .k (.int 5), .k (.int 6)])) [.mut 4 [] .app [.k (.int 9)]] []) [some (.fz (.str f.kind)), some (.fz f.due), some (.fz (.int 9)), some (.lst [.lst [], .lst [], .lst [], .lst [], .lst [], .lst [], .lst [], .fz (pairD 0 1), .lst []]), some (.fz (.tup [])), some (.fz (one9 f).paper)] = .nx [some (.fz (.str f.kind)), some (.fz f.due), some (.fz (.int 9)), some (.lst [.lst [], .lst [], .lst [], .lst [], .lst [], .lst [], .lst [], .fz (pairD 0 1), .lst []]), some (.fz (.tup [])), some (.fz (one9 f).paper)] := x_skip rfl
  have q8 : Ml.exec g37 (.ite (.o2 .in_ (.v 2) (.lst [.k (.int 1), .k (.int 2), .k (.int 8)])) [.callr none true (.fn 30) [.r 4]] []) [some (.fz (.str f.kind)), some (.fz f.due), some (.fz (.int 9)), some (.lst [.lst [], .lst [], .lst [], .lst [], .lst [], .lst [], .lst [], .fz (pairD 0 1), .lst []]), some (.fz (.tup [])), some (.fz (one9 f).paper)] = .nx [some (.fz (.str f.kind)), some (.fz f.due), some (.fz (.int 9)), some (.lst [.lst [], .lst [], .lst [], .lst [], .lst [], .lst [], .lst [], .fz (pairD 0 1), .lst []]), some (.fz (.tup [])), some (.fz (one9 f).paper)] := x_skip rfl
  have q9 : Ml.exec g37 (.frz 3) [some (.fz (.str f.kind)), some (.fz f.due), some (.fz (.int 9)), some (.lst [.lst [], .lst [], .lst [], .lst [], .lst [], .lst [], .lst [], .fz (pairD 0 1), .lst []]), some (.fz (.tup [])), some (.fz (one9 f).paper)] = .nx [some (.fz (.str f.kind)), some (.fz f.due), some (.fz (.int 9)), some (.fz (one9 f).due), some (.fz (.tup [])), some (.fz (one9 f).paper)] := rfl
  refine run_ret (n := 6) (st := [some (.fz (.str f.kind)), some (.fz f.due), some (.fz (.int 9)), some (.fz (one9 f).due), some (.fz (.tup [])), some (.fz (one9 f).paper)]) ?_
  show Ml.execs g37 c37 [some (.fz (.str f.kind)), some (.fz f.due), some (.fz (.int 9)), none, none, none] = _
  unfold c37
  rw [x_cons q0, x_cons q1, x_cons q2, x_cons q3, x_cons q4, x_cons q5, x_cons q6, x_cons q7, x_cons q8, x_cons q9]
  exact x_one (x_ret (call1 (x_es (x_v (n := 5) rfl) (x_es (x_v (n := 0) rfl) (x_es (x_v (n := 3) rfl) rfl))) rfl (fields_ok (one9_sm h))))

end L93

set_option Elab.async false
set_option linter.all false
set_option maxRecDepth 100000
set_option maxHeartbeats 1000000
namespace L93
open PySem Ml
theorem x_ae {G : Gl} {st : Ml.St} {e : E} {as : List Ag} {x : Rv} {d : D} {os : List O} (h1 : ev G e st = .ok x) (h2 : x.toD = some d) (h3 : evA G as st = .ok os) : evA G (.e e :: as) st = .ok (.fz d :: os) := by
  show (ev G e st).then _ = _
  rw [h1]
  show (match x.toD with
    | some d => (evA G as st).then fun os => Rs.ok (O.fz d :: os)
    | none => .bad) = _
  rw [h2]
  show (evA G as st).then _ = _
  rw [h3]
  rfl
theorem all_ok {f : Pf} (h : f.Sm) : f38 [.fz (.str f.kind), .fz f.due] = .ok (.fz (.bl true), []) := by
  have m : Ml.execs g14 c14 [some (.ins 0 [] []), some (.fz (.str f.kind)), some (.fz (.tup (rowD f.pr))), some (.fz (.tup (rowsT f.sh))), some (.fz (.tup (rowsT f.ot))), some (.fz (.tup (intsD' f.pe))), some (.fz (.tup (intsD' f.go))), some (.fz (.tup (rowD f.ta))), some (.fz (.tup (rowD f.we))), some (.fz (pairD f.fa.1 f.fa.2)), some (.fz (.tup (rowsT f.of)))] = _ := made_ok (f := f) (fun _ => rfl) rfl rfl (Rw.tup h.sh) (Rw.tup h.ot) rfl rfl rfl rfl (Rw.tup h.of)
  have r : f14 [.ins 0 [] [], .fz (.str f.kind), .fz (.tup (rowD f.pr)), .fz (.tup (rowsT f.sh)), .fz (.tup (rowsT f.ot)), .fz (.tup (intsD' f.pe)), .fz (.tup (intsD' f.go)), .fz (.tup (rowD f.ta)), .fz (.tup (rowD f.we)), .fz (pairD f.fa.1 f.fa.2), .fz (.tup (rowsT f.of))] = .ok (.fz .non, [f.paperO]) := run_nx (n := 11) m rfl
  have a : evA g38 [.e (.v 0), .e (.call 29 [.ix (.v 1) (.k (.int 8))]), .e (.ix (.v 1) (.k (.int 7))), .e (.bi .tuple [.ix (.v 1) (.k (.int 6))]), .e (.bi .tuple [.ix (.v 1) (.k (.int 5))]), .e (.bi .tuple [.ix (.v 1) (.k (.int 4))]), .e (.bi .tuple [.ix (.v 1) (.k (.int 3))]), .e (.call 29 [.ix (.v 1) (.k (.int 2))]), .e (.call 29 [.ix (.v 1) (.k (.int 1))]), .e (.bi .tuple [.ix (.v 1) (.k (.int 0))])] [some (.fz (.str f.kind)), some (.fz f.due), none] = .ok [.fz (.str f.kind), .fz (.tup (rowsT f.of)), .fz (pairD f.fa.1 f.fa.2), .fz (.tup (rowD f.we)), .fz (.tup (rowD f.ta)), .fz (.tup (intsD' f.go)), .fz (.tup (intsD' f.pe)), .fz (.tup (rowsT f.ot)), .fz (.tup (rowsT f.sh)), .fz (.tup (rowD f.pr))] := (x_ae (x_v (n := 0) rfl) rfl (x_ae (call1 (x_es (x_ixk (i := 8) (x_v (n := 1) rfl) rfl) rfl) rfl (frozen29 h.of)) rfl (x_ae (x_ixk (i := 7) (x_v (n := 1) rfl) rfl) rfl (x_ae (x_tupl (x_ixk (i := 6) (x_v (n := 1) rfl) rfl) rfl) rfl (x_ae (x_tupl (x_ixk (i := 5) (x_v (n := 1) rfl) rfl) rfl) rfl (x_ae (x_tupl (x_ixk (i := 4) (x_v (n := 1) rfl) rfl) rfl) rfl (x_ae (x_tupl (x_ixk (i := 3) (x_v (n := 1) rfl) rfl) rfl) rfl (x_ae (call1 (x_es (x_ixk (i := 2) (x_v (n := 1) rfl) rfl) rfl) rfl (frozen29 h.ot)) rfl (x_ae (call1 (x_es (x_ixk (i := 1) (x_v (n := 1) rfl) rfl) rfl) rfl (frozen29 h.sh)) rfl (x_ae (x_tupl (x_ixk (i := 0) (x_v (n := 1) rfl) rfl) rfl) rfl rfl))))))))))
  have e1 : Ml.exec g38 (.callr (some 2) true (.kw 0 10) [.e (.v 0), .e (.call 29 [.ix (.v 1) (.k (.int 8))]), .e (.ix (.v 1) (.k (.int 7))), .e (.bi .tuple [.ix (.v 1) (.k (.int 6))]), .e (.bi .tuple [.ix (.v 1) (.k (.int 5))]), .e (.bi .tuple [.ix (.v 1) (.k (.int 4))]), .e (.bi .tuple [.ix (.v 1) (.k (.int 3))]), .e (.call 29 [.ix (.v 1) (.k (.int 2))]), .e (.call 29 [.ix (.v 1) (.k (.int 1))]), .e (.bi .tuple [.ix (.v 1) (.k (.int 0))])]) [some (.fz (.str f.kind)), some (.fz f.due), none] = .nx [some (.fz (.str f.kind)), some (.fz f.due), some (.fz f.paper)] := x_callr (i := 2) (o := f.paperO) (st' := [some (.fz (.str f.kind)), some (.fz f.due), none]) (call_kw' (κ := ⟨14, 1, ["offer", "factor", "weights", "targets", "goods", "people", "other", "sharing", "prices"], [0, 1, 10, 9, 8, 7, 6, 5, 4, 3, 2], []⟩) (g := f14) (os := [.fz (.str f.kind), .fz (.tup (rowsT f.of)), .fz (pairD f.fa.1 f.fa.2), .fz (.tup (rowD f.we)), .fz (.tup (rowD f.ta)), .fz (.tup (intsD' f.go)), .fz (.tup (intsD' f.pe)), .fz (.tup (rowsT f.ot)), .fz (.tup (rowsT f.sh)), .fz (.tup (rowD f.pr))]) (os' := []) rfl a rfl (fun _ => rfl) r rfl)
  refine run_ret (n := 3) (st := [some (.fz (.str f.kind)), some (.fz f.due), some (.fz f.paper)]) ?_
  show Ml.execs g38 c38 [some (.fz (.str f.kind)), some (.fz f.due), none] = _
  unfold c38
  rw [x_cons e1]
  exact x_one (x_ret (call1 (x_es (x_v (n := 2) rfl) (x_es (x_v (n := 0) rfl) (x_es (x_v (n := 1) rfl) rfl))) rfl (fields_ok h)))

theorem loop_ok {f : Pf} (h : f.Sm) {x0 x1 x2 x3 x4 x6 x7 x8 x9 x10 x11 x12 x13 x14 : Option O} : ∃ tt, Ml.exec g39 (.for_ (.nm 16) 1 [.k (.int 10)] b39_0) [x0, x1, x2, x3, x4, some (.fz (.str f.kind)), x6, x7, x8, x9, x10, x11, x12, x13, x14, some (.fz f.due), none] = .nx [x0, x1, x2, x3, x4, some (.fz (.str f.kind)), x6, x7, x8, x9, x10, x11, x12, x13, x14, some (.fz f.due), tt] := by
  have hw : walkO 1 (([D.int 10]).map O.fz) = some (rangeOf 0 10) := rfl
  have e16 := x_for (G := g39) (t := .nm 16) (s := 1) (src := [.k (.int 10)]) (b := b39_0) (st := [x0, x1, x2, x3, x4, some (.fz (.str f.kind)), x6, x7, x8, x9, x10, x11, x12, x13, x14, some (.fz f.due), none]) (rs := [.my (.fz (.int 10))]) (ds := [.int 10]) rfl rfl hw
  have hds : O.ds (rangeOf 0 10) = [D.int 0, .int 1, .int 2, .int 3, .int 4, .int 5, .int 6, .int 7, .int 8, .int 9] := rfl
  rw [hds] at e16
  have turn : ∀ (k : Int) (tt : Option O), f37 [.fz (.str f.kind), .fz f.due, .fz (.int k)] = .ok (.fz (.bl true), []) → bodyF g39 (.nm 16) b39_0 (.int k) [x0, x1, x2, x3, x4, some (.fz (.str f.kind)), x6, x7, x8, x9, x10, x11, x12, x13, x14, some (.fz f.due), tt] = .nx [x0, x1, x2, x3, x4, some (.fz (.str f.kind)), x6, x7, x8, x9, x10, x11, x12, x13, x14, some (.fz f.due), some (.fz (.int k))] := fun k tt h => by
    show Ml.execs g39 b39_0 [x0, x1, x2, x3, x4, some (.fz (.str f.kind)), x6, x7, x8, x9, x10, x11, x12, x13, x14, some (.fz f.due), some (.fz (.int k))] = _
    unfold b39_0
    exact x_one (x_skip (x_tnot (q := true) (x_te (call1 (x_es (x_v (n := 5) rfl) (x_es (x_v (n := 15) rfl) (x_es (x_v (n := 16) rfl) rfl))) rfl h) rfl)))
  have go : ∀ {d : D} {ds : List D} {s s' : Ml.St}, bodyF g39 (.nm 16) b39_0 d s = .nx s' → forL (bodyF g39 (.nm 16) b39_0) (d :: ds) s = forL (bodyF g39 (.nm 16) b39_0) ds s' := fun h => by simp only [forL, h]
  refine ⟨some (.fz (.int 9)), e16.trans ?_⟩
  exact (go (turn 0 _ (field0_ok h))).trans ((go (turn 1 _ (field1_ok h))).trans ((go (turn 2 _ (field2_ok h))).trans ((go (turn 3 _ (field3_ok h))).trans ((go (turn 4 _ (field4_ok h))).trans ((go (turn 5 _ (field5_ok h))).trans ((go (turn 6 _ (field6_ok h))).trans ((go (turn 7 _ (field7_ok h))).trans ((go (turn 8 _ (field8_ok h))).trans (go (turn 9 _ (field9_ok h)))))))))))
theorem law_ok (ns : List Int) (hns : ns.length ≤ 63) : f39 [.fz (.lst (ns.map D.int))] = .ok (.fz (.bl true), []) := by
  obtain ⟨c0, hc0⟩ := cell_ok ns 0 (by decide)
  obtain ⟨c16, hc16⟩ := cell_ok ns 16 (by decide)
  obtain ⟨c17, hc17⟩ := cell_ok ns 17 (by decide)
  obtain ⟨c18, hc18⟩ := cell_ok ns 18 (by decide)
  obtain ⟨c19, hc19⟩ := cell_ok ns 19 (by decide)
  obtain ⟨c20, hc20⟩ := cell_ok ns 20 (by decide)
  obtain ⟨c21, hc21⟩ := cell_ok ns 21 (by decide)
  obtain ⟨xs, hx, hl, hbel⟩ := digits_ok c0 1000 8 (by decide) (by decide) (by decide) (by decide)
  match xs, hx, hl with
  | [a0, a1, a2, a3, a4, a5, a6, a7], hx, _ =>
  have b5 : ∀ z : Int, 0 ≤ z.fmod 5 ∧ z.fmod 5 ≤ 5 := fun z => ⟨Int.fmod_nonneg_of_pos z (by decide), by have := Int.fmod_lt_of_pos z (show (0 : Int) < 5 by decide); omega⟩
  obtain ⟨r6, hm6, hr6⟩ := rows_ok ns 1 (a4.fmod 5) (a2.fmod 5) (decide (a1.fmod 3 = 1)) (decide (a0.fmod 4 = 1)) (by decide) (b5 _) (b5 _)
  obtain ⟨r7, hm7, hr7⟩ := rows_ok ns 6 (a5.fmod 5) (a2.fmod 5) (decide (a1.fmod 3 = 1)) (decide (a0.fmod 4 = 1)) (by decide) (b5 _) (b5 _)
  obtain ⟨r8, hm8, hr8⟩ := rows_ok ns 11 (a6.fmod 5) (a2.fmod 5) (decide (a1.fmod 3 = 1)) (decide (a0.fmod 4 = 1)) (by decide) (b5 _) (b5 _)
  have hr6 : True ∧ _ := ⟨trivial, hr6⟩
  have hr7 : True ∧ _ := ⟨trivial, hr7⟩
  have hr8 : True ∧ _ := ⟨trivial, hr8⟩
  have m6 : Sm r6 := ⟨hm6.1, hm6.2⟩
  have m7 : Sm r7 := ⟨hm7.1, hm7.2⟩
  have m8 : Sm r8 := ⟨hm8.1, hm8.2⟩
  obtain ⟨r9, hr9, hl9⟩ := row_ok c16 (a2.fmod 5) (decide (a0.fmod 4 = 1)) (b5 _).1 (b5 _).2
  obtain ⟨r10, hr10, hl10⟩ := row_ok c17 (a7.fmod 5) (decide (a0.fmod 4 = 1)) (b5 _).1 (b5 _).2
  obtain ⟨r11, hr11, hl11⟩ := row_ok c18 ((a7.fdiv 5).fmod 5) (decide (a0.fmod 4 = 1)) (b5 _).1 (b5 _).2
  obtain ⟨r12, hr12, hl12⟩ := row_ok c19 1 (decide (a0.fmod 4 = 1)) (by decide) (by decide)
  have l9 : r9.length ≤ 5 := by have := (b5 a2).2; omega
  have l10 : r10.length ≤ 5 := by have := (b5 a7).2; omega
  have l11 : r11.length ≤ 5 := by have := (b5 (a7.fdiv 5)).2; omega
  match r12, hr12, hl12 with
  | [(v1, v2)], hr12, _ =>
  obtain ⟨n13, hn13l, hn13⟩ := numbers_ok c20
  obtain ⟨n14, hn14l, hn14⟩ := numbers_ok c21
  have e1 : Ml.exec g39 (.asg true (.nm 1) (.call 16 [.call 15 [.v 0, .k (.int 0)], .k (.int 1000), .k (.int 8)])) [some (.fz (.lst (ns.map D.int))), none, none, none, none, none, none, none, none, none, none, none, none, none, none, none, none] = .nx [some (.fz (.lst (ns.map D.int))), some (.fz (.lst [.int a0, .int a1, .int a2, .int a3, .int a4, .int a5, .int a6, .int a7])), none, none, none, none, none, none, none, none, none, none, none, none, none, none, none] := x_set (call1 (x_es (call1 (x_es (x_v (n := 0) rfl) (x_es x_k rfl)) rfl hc0) (x_es x_k (x_es x_k rfl))) rfl hx) rfl
  have e2 : Ml.exec g39 (.asg true (.nm 2) (.o2 .eq (.o2 .mod (.bi .int_ [.ix (.v 1) (.k (.int 0))]) (.k (.int 4))) (.k (.int 1)))) [some (.fz (.lst (ns.map D.int))), some (.fz (.lst [.int a0, .int a1, .int a2, .int a3, .int a4, .int a5, .int a6, .int a7])), none, none, none, none, none, none, none, none, none, none, none, none, none, none, none] = .nx [some (.fz (.lst (ns.map D.int))), some (.fz (.lst [.int a0, .int a1, .int a2, .int a3, .int a4, .int a5, .int a6, .int a7])), some (.fz (.bl (decide (a0.fmod 4 = 1)))), none, none, none, none, none, none, none, none, none, none, none, none, none, none] := x_set (x_o2 (x_o2 (x_int (x_ixk (i := 0) (x_v (n := 1) rfl) rfl) rfl) x_k (x_mod (by decide))) x_k x_eqi) rfl
  have e3 : Ml.exec g39 (.asg true (.nm 3) (.o2 .eq (.o2 .mod (.bi .int_ [.ix (.v 1) (.k (.int 1))]) (.k (.int 3))) (.k (.int 1)))) [some (.fz (.lst (ns.map D.int))), some (.fz (.lst [.int a0, .int a1, .int a2, .int a3, .int a4, .int a5, .int a6, .int a7])), some (.fz (.bl (decide (a0.fmod 4 = 1)))), none, none, none, none, none, none, none, none, none, none, none, none, none, none] = .nx [some (.fz (.lst (ns.map D.int))), some (.fz (.lst [.int a0, .int a1, .int a2, .int a3, .int a4, .int a5, .int a6, .int a7])), some (.fz (.bl (decide (a0.fmod 4 = 1)))), some (.fz (.bl (decide (a1.fmod 3 = 1)))), none, none, none, none, none, none, none, none, none, none, none, none, none] := x_set (x_o2 (x_o2 (x_int (x_ixk (i := 1) (x_v (n := 1) rfl) rfl) rfl) x_k (x_mod (by decide))) x_k x_eqi) rfl
  have e4 : Ml.exec g39 (.asg true (.nm 4) (.o2 .mod (.bi .int_ [.ix (.v 1) (.k (.int 2))]) (.k (.int 5)))) [some (.fz (.lst (ns.map D.int))), some (.fz (.lst [.int a0, .int a1, .int a2, .int a3, .int a4, .int a5, .int a6, .int a7])), some (.fz (.bl (decide (a0.fmod 4 = 1)))), some (.fz (.bl (decide (a1.fmod 3 = 1)))), none, none, none, none, none, none, none, none, none, none, none, none, none] = .nx [some (.fz (.lst (ns.map D.int))), some (.fz (.lst [.int a0, .int a1, .int a2, .int a3, .int a4, .int a5, .int a6, .int a7])), some (.fz (.bl (decide (a0.fmod 4 = 1)))), some (.fz (.bl (decide (a1.fmod 3 = 1)))), some (.fz (.int (a2.fmod 5))), none, none, none, none, none, none, none, none, none, none, none, none] := x_set (x_o2 (x_int (x_ixk (i := 2) (x_v (n := 1) rfl) rfl) rfl) x_k (x_mod (by decide))) rfl
  have hkind : ∃ s : Str, (D.str s).eok = true ∧ ev g39 (.ix (.lst [.k (.str "clearing"), .k (.str "dear"), .k (.str "lot"), .k (.str "weights"), .k (.str "trade"), .k (.str "factor")]) (.o2 .mod (.bi .int_ [.ix (.v 1) (.k (.int 3))]) (.k (.int 6)))) [some (.fz (.lst (ns.map D.int))), some (.fz (.lst [.int a0, .int a1, .int a2, .int a3, .int a4, .int a5, .int a6, .int a7])), some (.fz (.bl (decide (a0.fmod 4 = 1)))), some (.fz (.bl (decide (a1.fmod 3 = 1)))), some (.fz (.int (a2.fmod 5))), none, none, none, none, none, none, none, none, none, none, none, none] = .ok (.vw (.fz (.str s))) := by
    have hm : ev g39 (.o2 .mod (.bi .int_ [.ix (.v 1) (.k (.int 3))]) (.k (.int 6))) [some (.fz (.lst (ns.map D.int))), some (.fz (.lst [.int a0, .int a1, .int a2, .int a3, .int a4, .int a5, .int a6, .int a7])), some (.fz (.bl (decide (a0.fmod 4 = 1)))), some (.fz (.bl (decide (a1.fmod 3 = 1)))), some (.fz (.int (a2.fmod 5))), none, none, none, none, none, none, none, none, none, none, none, none] = .ok (.my (.fz (.int (a3.fmod 6)))) := (x_o2 (x_int (x_ixk (i := 3) (x_v (n := 1) rfl) rfl) rfl) x_k (x_mod (by decide)))
    have h1 := Int.fmod_nonneg_of_pos a3 (show (0 : Int) < 6 by decide)
    have h2 := Int.fmod_lt_of_pos a3 (show (0 : Int) < 6 by decide)
    generalize a3.fmod 6 = j at hm h1 h2
    have key : ∀ s : Str, ixO (.lst [.fz (.str "clearing"), .fz (.str "dear"), .fz (.str "lot"), .fz (.str "weights"), .fz (.str "trade"), .fz (.str "factor")]) (.fz (.int j)) = some (.fz (.str s)) → ev g39 (.ix (.lst [.k (.str "clearing"), .k (.str "dear"), .k (.str "lot"), .k (.str "weights"), .k (.str "trade"), .k (.str "factor")]) (.o2 .mod (.bi .int_ [.ix (.v 1) (.k (.int 3))]) (.k (.int 6)))) [some (.fz (.lst (ns.map D.int))), some (.fz (.lst [.int a0, .int a1, .int a2, .int a3, .int a4, .int a5, .int a6, .int a7])), some (.fz (.bl (decide (a0.fmod 4 = 1)))), some (.fz (.bl (decide (a1.fmod 3 = 1)))), some (.fz (.int (a2.fmod 5))), none, none, none, none, none, none, none, none, none, none, none, none] = .ok (.vw (.fz (.str s))) := fun s hs => by
      show ((Rs.ok (Rv.my (.lst [.fz (.str "clearing"), .fz (.str "dear"), .fz (.str "lot"), .fz (.str "weights"), .fz (.str "trade"), .fz (.str "factor")])) : Rs Rv).then fun x => (ev g39 (.o2 .mod (.bi .int_ [.ix (.v 1) (.k (.int 3))]) (.k (.int 6))) [some (.fz (.lst (ns.map D.int))), some (.fz (.lst [.int a0, .int a1, .int a2, .int a3, .int a4, .int a5, .int a6, .int a7])), some (.fz (.bl (decide (a0.fmod 4 = 1)))), some (.fz (.bl (decide (a1.fmod 3 = 1)))), some (.fz (.int (a2.fmod 5))), none, none, none, none, none, none, none, none, none, none, none, none]).then fun y => match ixO x.o y.o with
        | some o => Rs.ok (Rv.vw o)
        | none => .bad) = _
      rw [hm]
      show (match ixO (.lst [.fz (.str "clearing"), .fz (.str "dear"), .fz (.str "lot"), .fz (.str "weights"), .fz (.str "trade"), .fz (.str "factor")]) (.fz (.int j)) with
        | some o => Rs.ok (Rv.vw o)
        | none => .bad) = _
      rw [hs]
    have hj : j = 0 ∨ j = 1 ∨ j = 2 ∨ j = 3 ∨ j = 4 ∨ j = 5 := by omega
    rcases hj with rfl | rfl | rfl | rfl | rfl | rfl
    · exact ⟨"clearing", by decide +kernel, key _ rfl⟩
    · exact ⟨"dear", by decide +kernel, key _ rfl⟩
    · exact ⟨"lot", by decide +kernel, key _ rfl⟩
    · exact ⟨"weights", by decide +kernel, key _ rfl⟩
    · exact ⟨"trade", by decide +kernel, key _ rfl⟩
    · exact ⟨"factor", by decide +kernel, key _ rfl⟩
  obtain ⟨s, hs, hke⟩ := hkind
  have e5 : Ml.exec g39 (.asg true (.nm 5) (.ix (.lst [.k (.str "clearing"), .k (.str "dear"), .k (.str "lot"), .k (.str "weights"), .k (.str "trade"), .k (.str "factor")]) (.o2 .mod (.bi .int_ [.ix (.v 1) (.k (.int 3))]) (.k (.int 6))))) [some (.fz (.lst (ns.map D.int))), some (.fz (.lst [.int a0, .int a1, .int a2, .int a3, .int a4, .int a5, .int a6, .int a7])), some (.fz (.bl (decide (a0.fmod 4 = 1)))), some (.fz (.bl (decide (a1.fmod 3 = 1)))), some (.fz (.int (a2.fmod 5))), none, none, none, none, none, none, none, none, none, none, none, none] = .nx [some (.fz (.lst (ns.map D.int))), some (.fz (.lst [.int a0, .int a1, .int a2, .int a3, .int a4, .int a5, .int a6, .int a7])), some (.fz (.bl (decide (a0.fmod 4 = 1)))), some (.fz (.bl (decide (a1.fmod 3 = 1)))), some (.fz (.int (a2.fmod 5))), some (.fz (.str s)), none, none, none, none, none, none, none, none, none, none, none] := x_set hke rfl
  have e6 : Ml.exec g39 (.asg true (.nm 6) (.call 23 [.v 0, .k (.int 1), .o2 .mod (.bi .int_ [.ix (.v 1) (.k (.int 4))]) (.k (.int 5)), .v 4, .v 3, .v 2])) [some (.fz (.lst (ns.map D.int))), some (.fz (.lst [.int a0, .int a1, .int a2, .int a3, .int a4, .int a5, .int a6, .int a7])), some (.fz (.bl (decide (a0.fmod 4 = 1)))), some (.fz (.bl (decide (a1.fmod 3 = 1)))), some (.fz (.int (a2.fmod 5))), some (.fz (.str s)), none, none, none, none, none, none, none, none, none, none, none] = .nx [some (.fz (.lst (ns.map D.int))), some (.fz (.lst [.int a0, .int a1, .int a2, .int a3, .int a4, .int a5, .int a6, .int a7])), some (.fz (.bl (decide (a0.fmod 4 = 1)))), some (.fz (.bl (decide (a1.fmod 3 = 1)))), some (.fz (.int (a2.fmod 5))), some (.fz (.str s)), some (.fz (.lst (rowsD r6))), none, none, none, none, none, none, none, none, none, none] := x_set (call1 (x_es (x_v (n := 0) rfl) (x_es x_k (x_es (x_o2 (x_int (x_ixk (i := 4) (x_v (n := 1) rfl) rfl) rfl) x_k (x_mod (by decide))) (x_es (x_v (n := 4) rfl) (x_es (x_v (n := 3) rfl) (x_es (x_v (n := 2) rfl) rfl)))))) rfl hr6.2) (congrArg (fun l => some (O.fz (.lst l))) (ds_rowsO r6))
  have e7 : Ml.exec g39 (.asg true (.nm 7) (.call 23 [.v 0, .k (.int 6), .o2 .mod (.bi .int_ [.ix (.v 1) (.k (.int 5))]) (.k (.int 5)), .v 4, .v 3, .v 2])) [some (.fz (.lst (ns.map D.int))), some (.fz (.lst [.int a0, .int a1, .int a2, .int a3, .int a4, .int a5, .int a6, .int a7])), some (.fz (.bl (decide (a0.fmod 4 = 1)))), some (.fz (.bl (decide (a1.fmod 3 = 1)))), some (.fz (.int (a2.fmod 5))), some (.fz (.str s)), some (.fz (.lst (rowsD r6))), none, none, none, none, none, none, none, none, none, none] = .nx [some (.fz (.lst (ns.map D.int))), some (.fz (.lst [.int a0, .int a1, .int a2, .int a3, .int a4, .int a5, .int a6, .int a7])), some (.fz (.bl (decide (a0.fmod 4 = 1)))), some (.fz (.bl (decide (a1.fmod 3 = 1)))), some (.fz (.int (a2.fmod 5))), some (.fz (.str s)), some (.fz (.lst (rowsD r6))), some (.fz (.lst (rowsD r7))), none, none, none, none, none, none, none, none, none] := x_set (call1 (x_es (x_v (n := 0) rfl) (x_es x_k (x_es (x_o2 (x_int (x_ixk (i := 5) (x_v (n := 1) rfl) rfl) rfl) x_k (x_mod (by decide))) (x_es (x_v (n := 4) rfl) (x_es (x_v (n := 3) rfl) (x_es (x_v (n := 2) rfl) rfl)))))) rfl hr7.2) (congrArg (fun l => some (O.fz (.lst l))) (ds_rowsO r7))
  have e8 : Ml.exec g39 (.asg true (.nm 8) (.call 23 [.v 0, .k (.int 11), .o2 .mod (.bi .int_ [.ix (.v 1) (.k (.int 6))]) (.k (.int 5)), .v 4, .v 3, .v 2])) [some (.fz (.lst (ns.map D.int))), some (.fz (.lst [.int a0, .int a1, .int a2, .int a3, .int a4, .int a5, .int a6, .int a7])), some (.fz (.bl (decide (a0.fmod 4 = 1)))), some (.fz (.bl (decide (a1.fmod 3 = 1)))), some (.fz (.int (a2.fmod 5))), some (.fz (.str s)), some (.fz (.lst (rowsD r6))), some (.fz (.lst (rowsD r7))), none, none, none, none, none, none, none, none, none] = .nx [some (.fz (.lst (ns.map D.int))), some (.fz (.lst [.int a0, .int a1, .int a2, .int a3, .int a4, .int a5, .int a6, .int a7])), some (.fz (.bl (decide (a0.fmod 4 = 1)))), some (.fz (.bl (decide (a1.fmod 3 = 1)))), some (.fz (.int (a2.fmod 5))), some (.fz (.str s)), some (.fz (.lst (rowsD r6))), some (.fz (.lst (rowsD r7))), some (.fz (.lst (rowsD r8))), none, none, none, none, none, none, none, none] := x_set (call1 (x_es (x_v (n := 0) rfl) (x_es x_k (x_es (x_o2 (x_int (x_ixk (i := 6) (x_v (n := 1) rfl) rfl) rfl) x_k (x_mod (by decide))) (x_es (x_v (n := 4) rfl) (x_es (x_v (n := 3) rfl) (x_es (x_v (n := 2) rfl) rfl)))))) rfl hr8.2) (congrArg (fun l => some (O.fz (.lst l))) (ds_rowsO r8))
  have e9 : Ml.exec g39 (.asg true (.nm 9) (.call 22 [.call 15 [.v 0, .k (.int 16)], .v 4, .v 2])) [some (.fz (.lst (ns.map D.int))), some (.fz (.lst [.int a0, .int a1, .int a2, .int a3, .int a4, .int a5, .int a6, .int a7])), some (.fz (.bl (decide (a0.fmod 4 = 1)))), some (.fz (.bl (decide (a1.fmod 3 = 1)))), some (.fz (.int (a2.fmod 5))), some (.fz (.str s)), some (.fz (.lst (rowsD r6))), some (.fz (.lst (rowsD r7))), some (.fz (.lst (rowsD r8))), none, none, none, none, none, none, none, none] = .nx [some (.fz (.lst (ns.map D.int))), some (.fz (.lst [.int a0, .int a1, .int a2, .int a3, .int a4, .int a5, .int a6, .int a7])), some (.fz (.bl (decide (a0.fmod 4 = 1)))), some (.fz (.bl (decide (a1.fmod 3 = 1)))), some (.fz (.int (a2.fmod 5))), some (.fz (.str s)), some (.fz (.lst (rowsD r6))), some (.fz (.lst (rowsD r7))), some (.fz (.lst (rowsD r8))), some (.fz (.lst (rowD r9))), none, none, none, none, none, none, none] := x_set (call1 (x_es (call1 (x_es (x_v (n := 0) rfl) (x_es x_k rfl)) rfl hc16) (x_es (x_v (n := 4) rfl) (x_es (x_v (n := 2) rfl) rfl))) rfl hr9) (congrArg (fun l => some (O.fz (.lst l))) (ds_pairsO r9))
  have e10 : Ml.exec g39 (.asg true (.nm 10) (.call 22 [.call 15 [.v 0, .k (.int 17)], .o2 .mod (.bi .int_ [.ix (.v 1) (.k (.int 7))]) (.k (.int 5)), .v 2])) [some (.fz (.lst (ns.map D.int))), some (.fz (.lst [.int a0, .int a1, .int a2, .int a3, .int a4, .int a5, .int a6, .int a7])), some (.fz (.bl (decide (a0.fmod 4 = 1)))), some (.fz (.bl (decide (a1.fmod 3 = 1)))), some (.fz (.int (a2.fmod 5))), some (.fz (.str s)), some (.fz (.lst (rowsD r6))), some (.fz (.lst (rowsD r7))), some (.fz (.lst (rowsD r8))), some (.fz (.lst (rowD r9))), none, none, none, none, none, none, none] = .nx [some (.fz (.lst (ns.map D.int))), some (.fz (.lst [.int a0, .int a1, .int a2, .int a3, .int a4, .int a5, .int a6, .int a7])), some (.fz (.bl (decide (a0.fmod 4 = 1)))), some (.fz (.bl (decide (a1.fmod 3 = 1)))), some (.fz (.int (a2.fmod 5))), some (.fz (.str s)), some (.fz (.lst (rowsD r6))), some (.fz (.lst (rowsD r7))), some (.fz (.lst (rowsD r8))), some (.fz (.lst (rowD r9))), some (.fz (.lst (rowD r10))), none, none, none, none, none, none] := x_set (call1 (x_es (call1 (x_es (x_v (n := 0) rfl) (x_es x_k rfl)) rfl hc17) (x_es (x_o2 (x_int (x_ixk (i := 7) (x_v (n := 1) rfl) rfl) rfl) x_k (x_mod (by decide))) (x_es (x_v (n := 2) rfl) rfl))) rfl hr10) (congrArg (fun l => some (O.fz (.lst l))) (ds_pairsO r10))
  have e11 : Ml.exec g39 (.asg true (.nm 11) (.call 22 [.call 15 [.v 0, .k (.int 18)], .o2 .mod (.bi .int_ [.o2 .fdiv (.ix (.v 1) (.k (.int 7))) (.k (.int 5))]) (.k (.int 5)), .v 2])) [some (.fz (.lst (ns.map D.int))), some (.fz (.lst [.int a0, .int a1, .int a2, .int a3, .int a4, .int a5, .int a6, .int a7])), some (.fz (.bl (decide (a0.fmod 4 = 1)))), some (.fz (.bl (decide (a1.fmod 3 = 1)))), some (.fz (.int (a2.fmod 5))), some (.fz (.str s)), some (.fz (.lst (rowsD r6))), some (.fz (.lst (rowsD r7))), some (.fz (.lst (rowsD r8))), some (.fz (.lst (rowD r9))), some (.fz (.lst (rowD r10))), none, none, none, none, none, none] = .nx [some (.fz (.lst (ns.map D.int))), some (.fz (.lst [.int a0, .int a1, .int a2, .int a3, .int a4, .int a5, .int a6, .int a7])), some (.fz (.bl (decide (a0.fmod 4 = 1)))), some (.fz (.bl (decide (a1.fmod 3 = 1)))), some (.fz (.int (a2.fmod 5))), some (.fz (.str s)), some (.fz (.lst (rowsD r6))), some (.fz (.lst (rowsD r7))), some (.fz (.lst (rowsD r8))), some (.fz (.lst (rowD r9))), some (.fz (.lst (rowD r10))), some (.fz (.lst (rowD r11))), none, none, none, none, none] := x_set (call1 (x_es (call1 (x_es (x_v (n := 0) rfl) (x_es x_k rfl)) rfl hc18) (x_es (x_o2 (x_int (x_o2 (x_ixk (i := 7) (x_v (n := 1) rfl) rfl) x_k (x_fdiv (by decide) (by decide))) rfl) x_k (x_mod (by decide))) (x_es (x_v (n := 2) rfl) rfl))) rfl hr11) (congrArg (fun l => some (O.fz (.lst l))) (ds_pairsO r11))
  have e12 : Ml.exec g39 (.asg true (.nm 12) (.ix (.call 22 [.call 15 [.v 0, .k (.int 19)], .k (.int 1), .v 2]) (.k (.int 0)))) [some (.fz (.lst (ns.map D.int))), some (.fz (.lst [.int a0, .int a1, .int a2, .int a3, .int a4, .int a5, .int a6, .int a7])), some (.fz (.bl (decide (a0.fmod 4 = 1)))), some (.fz (.bl (decide (a1.fmod 3 = 1)))), some (.fz (.int (a2.fmod 5))), some (.fz (.str s)), some (.fz (.lst (rowsD r6))), some (.fz (.lst (rowsD r7))), some (.fz (.lst (rowsD r8))), some (.fz (.lst (rowD r9))), some (.fz (.lst (rowD r10))), some (.fz (.lst (rowD r11))), none, none, none, none, none] = .nx [some (.fz (.lst (ns.map D.int))), some (.fz (.lst [.int a0, .int a1, .int a2, .int a3, .int a4, .int a5, .int a6, .int a7])), some (.fz (.bl (decide (a0.fmod 4 = 1)))), some (.fz (.bl (decide (a1.fmod 3 = 1)))), some (.fz (.int (a2.fmod 5))), some (.fz (.str s)), some (.fz (.lst (rowsD r6))), some (.fz (.lst (rowsD r7))), some (.fz (.lst (rowsD r8))), some (.fz (.lst (rowD r9))), some (.fz (.lst (rowD r10))), some (.fz (.lst (rowD r11))), some (.fz (pairD v1 v2)), none, none, none, none] := x_set (x_ixk (i := 0) (call1 (x_es (call1 (x_es (x_v (n := 0) rfl) (x_es x_k rfl)) rfl hc19) (x_es x_k (x_es (x_v (n := 2) rfl) rfl))) rfl hr12) rfl) rfl
  have e13 : Ml.exec g39 (.asg true (.nm 13) (.call 24 [.call 15 [.v 0, .k (.int 20)]])) [some (.fz (.lst (ns.map D.int))), some (.fz (.lst [.int a0, .int a1, .int a2, .int a3, .int a4, .int a5, .int a6, .int a7])), some (.fz (.bl (decide (a0.fmod 4 = 1)))), some (.fz (.bl (decide (a1.fmod 3 = 1)))), some (.fz (.int (a2.fmod 5))), some (.fz (.str s)), some (.fz (.lst (rowsD r6))), some (.fz (.lst (rowsD r7))), some (.fz (.lst (rowsD r8))), some (.fz (.lst (rowD r9))), some (.fz (.lst (rowD r10))), some (.fz (.lst (rowD r11))), some (.fz (pairD v1 v2)), none, none, none, none] = .nx [some (.fz (.lst (ns.map D.int))), some (.fz (.lst [.int a0, .int a1, .int a2, .int a3, .int a4, .int a5, .int a6, .int a7])), some (.fz (.bl (decide (a0.fmod 4 = 1)))), some (.fz (.bl (decide (a1.fmod 3 = 1)))), some (.fz (.int (a2.fmod 5))), some (.fz (.str s)), some (.fz (.lst (rowsD r6))), some (.fz (.lst (rowsD r7))), some (.fz (.lst (rowsD r8))), some (.fz (.lst (rowD r9))), some (.fz (.lst (rowD r10))), some (.fz (.lst (rowD r11))), some (.fz (pairD v1 v2)), some (.fz (.lst (intsD' n13))), none, none, none] := x_set (call1 (x_es (call1 (x_es (x_v (n := 0) rfl) (x_es x_k rfl)) rfl hc20) rfl) rfl hn13) (congrArg (fun l => some (O.fz (.lst l))) (ds_intsO n13))
  have e14 : Ml.exec g39 (.asg true (.nm 14) (.call 24 [.call 15 [.v 0, .k (.int 21)]])) [some (.fz (.lst (ns.map D.int))), some (.fz (.lst [.int a0, .int a1, .int a2, .int a3, .int a4, .int a5, .int a6, .int a7])), some (.fz (.bl (decide (a0.fmod 4 = 1)))), some (.fz (.bl (decide (a1.fmod 3 = 1)))), some (.fz (.int (a2.fmod 5))), some (.fz (.str s)), some (.fz (.lst (rowsD r6))), some (.fz (.lst (rowsD r7))), some (.fz (.lst (rowsD r8))), some (.fz (.lst (rowD r9))), some (.fz (.lst (rowD r10))), some (.fz (.lst (rowD r11))), some (.fz (pairD v1 v2)), some (.fz (.lst (intsD' n13))), none, none, none] = .nx [some (.fz (.lst (ns.map D.int))), some (.fz (.lst [.int a0, .int a1, .int a2, .int a3, .int a4, .int a5, .int a6, .int a7])), some (.fz (.bl (decide (a0.fmod 4 = 1)))), some (.fz (.bl (decide (a1.fmod 3 = 1)))), some (.fz (.int (a2.fmod 5))), some (.fz (.str s)), some (.fz (.lst (rowsD r6))), some (.fz (.lst (rowsD r7))), some (.fz (.lst (rowsD r8))), some (.fz (.lst (rowD r9))), some (.fz (.lst (rowD r10))), some (.fz (.lst (rowD r11))), some (.fz (pairD v1 v2)), some (.fz (.lst (intsD' n13))), some (.fz (.lst (intsD' n14))), none, none] := x_set (call1 (x_es (call1 (x_es (x_v (n := 0) rfl) (x_es x_k rfl)) rfl hc21) rfl) rfl hn14) (congrArg (fun l => some (O.fz (.lst l))) (ds_intsO n14))
  have t1 : et g39 (.or (.not (.e (.call 32 [.v 9, .v 6, .v 10]))) (.not (.e (.call 33 [.v 12, .v 7, .v 13, .v 14])))) [some (.fz (.lst (ns.map D.int))), some (.fz (.lst [.int a0, .int a1, .int a2, .int a3, .int a4, .int a5, .int a6, .int a7])), some (.fz (.bl (decide (a0.fmod 4 = 1)))), some (.fz (.bl (decide (a1.fmod 3 = 1)))), some (.fz (.int (a2.fmod 5))), some (.fz (.str s)), some (.fz (.lst (rowsD r6))), some (.fz (.lst (rowsD r7))), some (.fz (.lst (rowsD r8))), some (.fz (.lst (rowD r9))), some (.fz (.lst (rowD r10))), some (.fz (.lst (rowD r11))), some (.fz (pairD v1 v2)), some (.fz (.lst (intsD' n13))), some (.fz (.lst (intsD' n14))), none, none] = .ok false :=
    x_tor (x_tnot (q := true) (x_te (call1 (x_es (x_v (n := 9) rfl) (x_es (x_v (n := 6) rfl) (x_es (x_v (n := 10) rfl) rfl))) rfl (clearing_ok l9 m6 l10)) rfl)) (x_tnot (q := true) (x_te (call1 (x_es (x_v (n := 12) rfl) (x_es (x_v (n := 7) rfl) (x_es (x_v (n := 13) rfl) (x_es (x_v (n := 14) rfl) rfl)))) rfl (flow_ok m7 hn13l hn14l)) rfl))
  have t2 : et g39 (.not (.e (.call 34 [.v 12, .v 11, .v 8]))) [some (.fz (.lst (ns.map D.int))), some (.fz (.lst [.int a0, .int a1, .int a2, .int a3, .int a4, .int a5, .int a6, .int a7])), some (.fz (.bl (decide (a0.fmod 4 = 1)))), some (.fz (.bl (decide (a1.fmod 3 = 1)))), some (.fz (.int (a2.fmod 5))), some (.fz (.str s)), some (.fz (.lst (rowsD r6))), some (.fz (.lst (rowsD r7))), some (.fz (.lst (rowsD r8))), some (.fz (.lst (rowD r9))), some (.fz (.lst (rowD r10))), some (.fz (.lst (rowD r11))), some (.fz (pairD v1 v2)), some (.fz (.lst (intsD' n13))), some (.fz (.lst (intsD' n14))), none, none] = .ok false := x_tnot (q := true) (x_te (call1 (x_es (x_v (n := 12) rfl) (x_es (x_v (n := 11) rfl) (x_es (x_v (n := 8) rfl) rfl))) rfl (factor_ok m8 l11)) rfl)
  have e15 : Ml.exec g39 (.asg true (.nm 15) (.lst [.v 9, .v 6, .v 7, .v 13, .v 14, .v 10, .v 11, .v 12, .v 8])) [some (.fz (.lst (ns.map D.int))), some (.fz (.lst [.int a0, .int a1, .int a2, .int a3, .int a4, .int a5, .int a6, .int a7])), some (.fz (.bl (decide (a0.fmod 4 = 1)))), some (.fz (.bl (decide (a1.fmod 3 = 1)))), some (.fz (.int (a2.fmod 5))), some (.fz (.str s)), some (.fz (.lst (rowsD r6))), some (.fz (.lst (rowsD r7))), some (.fz (.lst (rowsD r8))), some (.fz (.lst (rowD r9))), some (.fz (.lst (rowD r10))), some (.fz (.lst (rowD r11))), some (.fz (pairD v1 v2)), some (.fz (.lst (intsD' n13))), some (.fz (.lst (intsD' n14))), none, none] = .nx [some (.fz (.lst (ns.map D.int))), some (.fz (.lst [.int a0, .int a1, .int a2, .int a3, .int a4, .int a5, .int a6, .int a7])), some (.fz (.bl (decide (a0.fmod 4 = 1)))), some (.fz (.bl (decide (a1.fmod 3 = 1)))), some (.fz (.int (a2.fmod 5))), some (.fz (.str s)), some (.fz (.lst (rowsD r6))), some (.fz (.lst (rowsD r7))), some (.fz (.lst (rowsD r8))), some (.fz (.lst (rowD r9))), some (.fz (.lst (rowD r10))), some (.fz (.lst (rowD r11))), some (.fz (pairD v1 v2)), some (.fz (.lst (intsD' n13))), some (.fz (.lst (intsD' n14))), some (.fz (Pf.due ⟨s, r9, r6, r7, n13, n14, r10, r11, (v1, v2), r8⟩)), none] := rfl
  have sm : Pf.Sm ⟨s, r9, r6, r7, n13, n14, r10, r11, (v1, v2), r8⟩ := ⟨l9, m6, m7, hn13l, hn14l, l10, l11, m8, hs⟩
  obtain ⟨tt, e17⟩ : ∃ tt, Ml.exec g39 (.for_ (.nm 16) 1 [.k (.int 10)] b39_0) [some (.fz (.lst (ns.map D.int))), some (.fz (.lst [.int a0, .int a1, .int a2, .int a3, .int a4, .int a5, .int a6, .int a7])), some (.fz (.bl (decide (a0.fmod 4 = 1)))), some (.fz (.bl (decide (a1.fmod 3 = 1)))), some (.fz (.int (a2.fmod 5))), some (.fz (.str s)), some (.fz (.lst (rowsD r6))), some (.fz (.lst (rowsD r7))), some (.fz (.lst (rowsD r8))), some (.fz (.lst (rowD r9))), some (.fz (.lst (rowD r10))), some (.fz (.lst (rowD r11))), some (.fz (pairD v1 v2)), some (.fz (.lst (intsD' n13))), some (.fz (.lst (intsD' n14))), some (.fz (Pf.due ⟨s, r9, r6, r7, n13, n14, r10, r11, (v1, v2), r8⟩)), none] = .nx [some (.fz (.lst (ns.map D.int))), some (.fz (.lst [.int a0, .int a1, .int a2, .int a3, .int a4, .int a5, .int a6, .int a7])), some (.fz (.bl (decide (a0.fmod 4 = 1)))), some (.fz (.bl (decide (a1.fmod 3 = 1)))), some (.fz (.int (a2.fmod 5))), some (.fz (.str s)), some (.fz (.lst (rowsD r6))), some (.fz (.lst (rowsD r7))), some (.fz (.lst (rowsD r8))), some (.fz (.lst (rowD r9))), some (.fz (.lst (rowD r10))), some (.fz (.lst (rowD r11))), some (.fz (pairD v1 v2)), some (.fz (.lst (intsD' n13))), some (.fz (.lst (intsD' n14))), some (.fz (Pf.due ⟨s, r9, r6, r7, n13, n14, r10, r11, (v1, v2), r8⟩)), tt] := loop_ok sm
  refine run_ret (n := 17) (st := [some (.fz (.lst (ns.map D.int))), some (.fz (.lst [.int a0, .int a1, .int a2, .int a3, .int a4, .int a5, .int a6, .int a7])), some (.fz (.bl (decide (a0.fmod 4 = 1)))), some (.fz (.bl (decide (a1.fmod 3 = 1)))), some (.fz (.int (a2.fmod 5))), some (.fz (.str s)), some (.fz (.lst (rowsD r6))), some (.fz (.lst (rowsD r7))), some (.fz (.lst (rowsD r8))), some (.fz (.lst (rowD r9))), some (.fz (.lst (rowD r10))), some (.fz (.lst (rowD r11))), some (.fz (pairD v1 v2)), some (.fz (.lst (intsD' n13))), some (.fz (.lst (intsD' n14))), some (.fz (Pf.due ⟨s, r9, r6, r7, n13, n14, r10, r11, (v1, v2), r8⟩)), tt]) ?_
  show Ml.execs g39 c39 [some (.fz (.lst (ns.map D.int))), none, none, none, none, none, none, none, none, none, none, none, none, none, none, none, none] = _
  unfold c39
  rw [x_cons e1, x_cons e2, x_cons e3, x_cons e4, x_cons e5, x_cons e6, x_cons e7, x_cons e8, x_cons e9, x_cons e10, x_cons e11, x_cons e12, x_cons e13, x_cons e14, x_cons (x_skip t1), x_cons (x_skip t2), x_cons e15, x_cons e17]
  exact x_one (x_ret (call1 (x_es (x_v (n := 5) rfl) (x_es (x_v (n := 15) rfl) rfl)) rfl (all_ok sm)))

end L93

theorem PySem.Challenge.cw_marketscleared_k93_objects_keep_copies_holds : PySem.Challenge.rw_marketscleared_k93_objects_keep_copies.Holds :=
  k93_of L93.law_ok
