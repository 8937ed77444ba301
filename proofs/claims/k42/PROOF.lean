import PyProof.Rows.All
import Wide.All
import OpenK.AllK
import Wide.FinOn
import HandS.Comp
import HandS.Conv
import HandS.Deep
import HandS.Flow
import HandS.ForMost
import HandS.IsInst
import HandS.Style
import HandS.Text
import HandS.TupAny
import HandS.TupLe
import HandS.TupMul
import HandS.Walk
import HandS.Wide
import KE.GoesEnum
import PySem.Challenge.RW_latersums_k42_whole_one_line_of_waiting
set_option Elab.async false
set_option linter.all false
set_option maxRecDepth 100000
set_option maxHeartbeats 4000000
/-! PLa: plain values, what stands for them in the heap, the bag of contents. -/
namespace PL
open PySem PySem.Spec PyProof.Rows L2

/-- the built-in classes that a text names -/
inductive Ty where
  | non | bool | int | str | tuple | list | dict | set
  deriving DecidableEq
def Ty.nm : Ty → String
  | .non => "NoneType" | .bool => "bool" | .int => "int" | .str => "str" | .tuple => "tuple" | .list => "list" | .dict => "dict" | .set => "set"
/-- a plain value -/
inductive PV where
  | non | bl (b : Bool) | int (i : Int) | str (x : Str)
  | tup (xs : List PV) | lst (xs : List PV) | scr (xs : List PV)
  | ins (c : Nat) (xs : List PV)
  | ty (t : Ty) | cls (c : Nat)

/-- what the text says of classes: their addresses, their attributes in order -/
structure RE where
  K : PySem.W.Frag
  cl : Nat → Addr
  fl : Nat → List Str

/-- a tuple that is tracked, or one of the module's -/
def TupAt (K : PySem.W.Frag) (F : Hp) (a : Addr) (vs : List V) : Prop :=
  F a = some (.tup vs) ∨ ∃ (o : Obj) (its : Array Value) (n : Nat), K.lookup a = some o ∧ o.cls = .type "tuple" ∧ o.data = .seq its n ∧ its.size ≤ sizeLine ∧ Vals vs its.toList
theorem TupAt.sq {K : PySem.W.Frag} {F : Hp} {a : Addr} {vs : List V} (h : TupAt K F a vs) : SqT K F a vs := by
  rcases h with h | h
  · exact SqT.of h
  · exact .inr h
mutual
inductive Rp (R : RE) (F : Hp) : PV → V → Prop
  | non : Rp R F .non .non
  | bl (b : Bool) : Rp R F (.bl b) (.bl b)
  | int (i : Int) : Rp R F (.int i) (.int i)
  | str (x : Str) : Rp R F (.str x) (.str x)
  | tup {a : Addr} {xs : List PV} {vs : List V} : TupAt R.K F a vs → RpL R F xs vs → Rp R F (.tup xs) (.ref a)
  | lst {a : Addr} {xs : List PV} {vs : List V} : F a = some (.lst vs) → RpL R F xs vs → Rp R F (.lst xs) (.ref a)
  | scr {a : Addr} {xs : List PV} {vs : List V} : SqL R.K F a vs → RpL R F xs vs → Rp R F (.scr xs) (.ref a)
  | ins {a dx : Addr} {c : Nat} {xs : List PV} {vs : List V} : F a = some (.ins (R.cl c) dx ((R.fl c).zip vs)) → vs.length = (R.fl c).length → RpL R F xs vs → Rp R F (.ins c xs) (.ref a)
  | ty (t : Ty) : Rp R F (.ty t) (.ty t.nm)
  | cls (c : Nat) : Rp R F (.cls c) (.ref (R.cl c))
inductive RpL (R : RE) (F : Hp) : List PV → List V → Prop
  | nil : RpL R F [] []
  | cons {p : PV} {ps : List PV} {v : V} {vs : List V} : Rp R F p v → RpL R F ps vs → RpL R F (p :: ps) (v :: vs)
end

/-- the one heap within the other -/
def Sub (F G : Hp) : Prop := ∀ a o, F a = some o → G a = some o
theorem Sub.refl {F : Hp} : Sub F F := fun _ _ h => h
theorem Sub.trans {F G J : Hp} (h : Sub F G) (h2 : Sub G J) : Sub F J := fun a o e => h2 a o (h a o e)
theorem Sub.rd {F G : Hp} (h : Sub F G) {a : Addr} {u : HO} (r : Rd F a u) : Rd G a u := by
  rcases r with r | ⟨o, r⟩
  · exact .inl (h _ _ r)
  · exact .inr ⟨o, h _ _ r⟩
theorem Sub.sqL {F G : Hp} (h : Sub F G) {K : PySem.W.Frag} {a : Addr} {vs : List V} (r : SqL K F a vs) : SqL K G a vs := by
  rcases r with r | r
  · exact .inl (h.rd r)
  · exact .inr r
theorem Sub.sqT {F G : Hp} (h : Sub F G) {K : PySem.W.Frag} {a : Addr} {vs : List V} (r : SqT K F a vs) : SqT K G a vs := by
  rcases r with r | r
  · exact .inl (h.rd r)
  · exact .inr r
theorem Sub.tupAt {F G : Hp} (h : Sub F G) {K : PySem.W.Frag} {a : Addr} {vs : List V} (r : TupAt K F a vs) : TupAt K G a vs := by
  rcases r with r | r
  · exact .inl (h _ _ r)
  · exact .inr r
mutual
theorem Rp.mono {R : RE} {F G : Hp} (h : Sub F G) : ∀ {p : PV} {x : V}, Rp R F p x → Rp R G p x
  | _, _, .non => .non
  | _, _, .bl b => .bl b
  | _, _, .int i => .int i
  | _, _, .str x => .str x
  | _, _, .tup q r => .tup (h.tupAt q) (RpL.mono h r)
  | _, _, .lst q r => .lst (h _ _ q) (RpL.mono h r)
  | _, _, .scr q r => .scr (h.sqL q) (RpL.mono h r)
  | _, _, .ins q l r => .ins (h _ _ q) l (RpL.mono h r)
  | _, _, .ty t => .ty t
  | _, _, .cls c => .cls c
theorem RpL.mono {R : RE} {F G : Hp} (h : Sub F G) : ∀ {p : List PV} {x : List V}, RpL R F p x → RpL R G p x
  | _, _, .nil => .nil
  | _, _, .cons q r => .cons (Rp.mono h q) (RpL.mono h r)
end
theorem RpL.length {R : RE} {F : Hp} : ∀ {ps : List PV} {vs : List V}, RpL R F ps vs → ps.length = vs.length
  | _, _, .nil => rfl
  | _, _, .cons _ r => congrArg (· + 1) (RpL.length r)
theorem RpL.append {R : RE} {F : Hp} : ∀ {ps qs : List PV} {vs us : List V}, RpL R F ps vs → RpL R F qs us → RpL R F (ps ++ qs) (vs ++ us)
  | _, _, _, _, .nil, s => s
  | _, _, _, _, .cons q r, s => .cons q (RpL.append r s)
theorem RpL.one {R : RE} {F : Hp} {p : PV} {v : V} (h : Rp R F p v) : RpL R F [p] [v] := .cons h .nil
theorem RpL.get {R : RE} {F : Hp} : ∀ {ps : List PV} {vs : List V} {i : Nat} {v : V}, RpL R F ps vs → vs[i]? = some v → ∃ p, ps[i]? = some p ∧ Rp R F p v
  | _, _, i, _, .nil, h => by simp at h
  | _, _, 0, _, .cons q r, h => by simp at h; subst h; exact ⟨_, rfl, q⟩
  | _, _, i + 1, _, .cons q r, h => by
    obtain ⟨p, e, z⟩ := RpL.get (i := i) r (by simpa using h)
    exact ⟨p, by simpa using e, z⟩
theorem RpL.get' {R : RE} {F : Hp} : ∀ {ps : List PV} {vs : List V} {i : Nat} {p : PV}, RpL R F ps vs → ps[i]? = some p → ∃ v, vs[i]? = some v ∧ Rp R F p v
  | _, _, i, _, .nil, h => by simp at h
  | _, _, 0, _, .cons q r, h => by simp at h; subst h; exact ⟨_, rfl, q⟩
  | _, _, i + 1, _, .cons q r, h => by
    obtain ⟨p, e, z⟩ := RpL.get' (i := i) r (by simpa using h)
    exact ⟨p, by simpa using e, z⟩
theorem RpL.set {R : RE} {F : Hp} : ∀ {ps : List PV} {vs : List V} {i : Nat} {p : PV} {v : V}, RpL R F ps vs → Rp R F p v → RpL R F (ps.set i p) (vs.set i v)
  | _, _, _, _, _, .nil, _ => .nil
  | _, _, 0, _, _, .cons q r, h => .cons h r
  | _, _, i + 1, _, _, .cons q r, h => .cons q (RpL.set r h)
theorem RpL.take {R : RE} {F : Hp} : ∀ (n : Nat) {ps : List PV} {vs : List V}, RpL R F ps vs → RpL R F (ps.take n) (vs.take n)
  | 0, _, _, _ => by simp; exact .nil
  | n + 1, _, _, .nil => by simp; exact .nil
  | n + 1, _, _, .cons q r => .cons q (RpL.take n r)
theorem RpL.drop {R : RE} {F : Hp} : ∀ (n : Nat) {ps : List PV} {vs : List V}, RpL R F ps vs → RpL R F (ps.drop n) (vs.drop n)
  | 0, _, _, h => h
  | n + 1, _, _, .nil => by simp; exact .nil
  | n + 1, _, _, .cons q r => RpL.drop n r
theorem RpL.reverse {R : RE} {F : Hp} : ∀ {ps : List PV} {vs : List V}, RpL R F ps vs → RpL R F ps.reverse vs.reverse
  | _, _, .nil => .nil
  | _, _, .cons q r => by rw [List.reverse_cons, List.reverse_cons]; exact (RpL.reverse r).append (.one q)
theorem RpL.rep {R : RE} {F : Hp} {ps : List PV} {vs : List V} (h : RpL R F ps vs) : ∀ k : Nat, RpL R F (List.replicate k ps).flatten (List.replicate k vs).flatten
  | 0 => .nil
  | k + 1 => by
    rw [List.replicate_succ, List.replicate_succ, List.flatten_cons, List.flatten_cons]
    exact h.append (RpL.rep h k)
theorem RpL.ints {R : RE} {F : Hp} : ∀ {ns : List Int} {vs : List V}, RpL R F (ns.map PV.int) vs → vs = ns.map V.int
  | [], _, .nil => rfl
  | n :: ns, _, .cons q r => by cases q; rw [RpL.ints r]; rfl
theorem RpL.bls {R : RE} {F : Hp} : ∀ {ns : List Bool} {vs : List V}, RpL R F (ns.map PV.bl) vs → vs = ns.map V.bl
  | [], _, .nil => rfl
  | n :: ns, _, .cons q r => by cases q; rw [RpL.bls r]; rfl
theorem RpL.of_ints {R : RE} {F : Hp} : ∀ (ns : List Int), RpL R F (ns.map PV.int) (ns.map V.int)
  | [] => .nil
  | n :: ns => .cons (.int n) (RpL.of_ints ns)

/-! ### contents -/
/-- what a slot or a temporary holds: nothing known; a value that stays; a list of one's own; an instance of one's own; lent away; the same as slot i (to be read) -/
inductive Sl where
  | un
  | fz (p : PV)
  | own (xs : List PV)
  | obj (c : Nat) (xs : List PV)
  | moved
  | pk (i : Nat)
  | br (i : Nat) (s : Sl)

def SlR (R : RE) (F H : Hp) : Sl → Option V → Prop
  | .un, _ => True
  | .fz p, o => ∃ x, o = some x ∧ Rp R F p x
  | .own xs, o => ∃ a vs, o = some (.ref a) ∧ F a = none ∧ H a = some (.lst vs) ∧ RpL R F xs vs
  | .obj c xs, o => ∃ a dx vs, o = some (.ref a) ∧ F a = none ∧ H a = some (.ins (R.cl c) dx (((R.fl c).take xs.length).zip vs)) ∧ xs.length ≤ (R.fl c).length ∧ RpL R F xs vs
  | .moved, _ => True
  | .pk _, _ => True
  | .br _ _, _ => True
/-- the own address of a content -/
def adr : Sl → Option V → Option Addr
  | .own _, some (.ref a) => some a
  | .obj _ _, some (.ref a) => some a
  | _, _ => none

abbrev Bg := List (Sl × Option V)
/-- the entry: the heaps there, what was lent -/
structure En where
  H : Hp
  F : Hp
  W : List Addr

structure Bag (R : RE) (e : En) (F H : Hp) (B : Bg) : Prop where
  sub : Sub F H
  all : ∀ (i : Nat) (s : Sl) (o : Option V), B[i]? = some (s, o) → SlR R F H s o
  dis : ∀ (i j : Nat) (s t : Sl) (o u : Option V) (a : Addr), B[i]? = some (s, o) → B[j]? = some (t, u) → adr s o = some a → adr t u = some a → i = j
  fr : ∀ a o, e.H a = some o → a ∉ e.W → H a = some o
  frW : ∀ a ∈ e.W, H a ≠ none
  ow : ∀ (i : Nat) (s : Sl) (o : Option V) (a : Addr), B[i]? = some (s, o) → adr s o = some a → e.H a = none ∨ a ∈ e.W
  hf : ∀ a o, F a = some o → e.F a = some o ∨ e.H a = none ∨ a ∈ e.W
  hf0 : Sub e.F F

theorem SlR.own_of {R : RE} {F H : Hp} {s : Sl} {o : Option V} {a : Addr} (h : SlR R F H s o) (e : adr s o = some a) : F a = none ∧ (∃ u, H a = some u) := by
  cases s with
  | own xs =>
    obtain ⟨b, vs, rfl, h1, h2, _⟩ := h
    cases e
    exact ⟨h1, _, h2⟩
  | obj c xs =>
    obtain ⟨b, dx, vs, rfl, h1, h2, _⟩ := h
    cases e
    exact ⟨h1, _, h2⟩
  | _ => cases e
/-- another heap: what is frozen grows, the own address is as it was -/
theorem SlR.keep {R : RE} {F H F' H' : Hp} {s : Sl} {o : Option V} (h : SlR R F H s o) (hs : Sub F F') (ha : ∀ a, adr s o = some a → F' a = none ∧ H' a = H a) : SlR R F' H' s o := by
  cases s with
  | fz p =>
    obtain ⟨x, e, r⟩ := h
    exact ⟨x, e, r.mono hs⟩
  | own xs =>
    obtain ⟨b, vs, rfl, h1, h2, r⟩ := h
    obtain ⟨q1, q2⟩ := ha b rfl
    exact ⟨b, vs, rfl, q1, q2.trans h2, r.mono hs⟩
  | obj c xs =>
    obtain ⟨b, dx, vs, rfl, h1, h2, l, r⟩ := h
    obtain ⟨q1, q2⟩ := ha b rfl
    exact ⟨b, dx, vs, rfl, q1, q2.trans h2, l, r.mono hs⟩
  | _ => trivial

section
variable {R : RE} {e : En} {F H : Hp} {B : Bg}

theorem Bag.tr (h : Bag R e F H B) {i : Nat} {s : Sl} {o : Option V} {a : Addr} (g : B[i]? = some (s, o)) (q : adr s o = some a) : F a = none ∧ ∃ u, H a = some u := (h.all i s o g).own_of q
/-- an address that is new is nobody's -/
theorem Bag.new (h : Bag R e F H B) {p : Addr} (n : H p = none) : F p = none ∧ (e.H p = none ∨ p ∈ e.W) ∧ p ∉ e.W ∧ e.H p = none := by
  have hw : p ∉ e.W := fun z => h.frW p z n
  have hn : e.H p = none := by
    cases q : e.H p with
    | none => rfl
    | some o => rw [h.fr p o q hw] at n; cases n
  refine ⟨?_, .inl hn, hw, hn⟩
  cases q : F p with
  | none => rfl
  | some o => rw [h.sub p o q] at n; cases n

/-- a content put at place i that owns nothing, or what the old one owned -/
theorem Bag.put (h : Bag R e F H B) {i : Nat} {s t : Sl} {o : Option V} (g : B[i]? = some (s, o)) (ht : SlR R F H t o) (ha : ∀ a, adr t o = some a → adr s o = some a) : Bag R e F H (B.set i (t, o)) := by
  have hi : i < B.length := (List.getElem?_eq_some_iff.mp g).1
  have at_ : ∀ (j : Nat) (u : Sl) (v : Option V), (B.set i (t, o))[j]? = some (u, v) → (j = i ∧ u = t ∧ v = o) ∨ (j ≠ i ∧ B[j]? = some (u, v)) := fun j u v q => by
    by_cases z : i = j
    · subst z
      rw [List.getElem?_set_self hi] at q
      cases q
      exact .inl ⟨rfl, rfl, rfl⟩
    · rw [List.getElem?_set_ne z] at q
      exact .inr ⟨fun y => z y.symm, q⟩
  refine ⟨h.sub, fun j u v q => ?_, fun j k u w v x a q1 q2 a1 a2 => ?_, h.fr, h.frW, fun j u v a q a1 => ?_, h.hf, h.hf0⟩
  · rcases at_ j u v q with ⟨_, rfl, rfl⟩ | ⟨_, q⟩
    · exact ht
    · exact h.all j u v q
  · rcases at_ j u v q1 with ⟨ej, eu, ev⟩ | ⟨n1, q1⟩
    · rcases at_ k w x q2 with ⟨ek, ew, ex⟩ | ⟨n2, q2⟩
      · rw [ej, ek]
      · rw [ej]
        rw [eu, ev] at a1
        exact h.dis i k s w o x a g q2 (ha a a1) a2
    · rcases at_ k w x q2 with ⟨ek, ew, ex⟩ | ⟨n2, q2⟩
      · rw [ek]
        rw [ew, ex] at a2
        exact h.dis j i u s v o a q1 g a1 (ha a a2)
      · exact h.dis j k u w v x a q1 q2 a1 a2
  · rcases at_ j u v q with ⟨rfl, rfl, rfl⟩ | ⟨_, q⟩
    · exact h.ow j s v a g (ha a a1)
    · exact h.ow j u v a q a1

theorem get_app {B : Bg} {p q : Sl × Option V} {i : Nat} (h : (B ++ [p])[i]? = some q) : (i < B.length ∧ B[i]? = some q) ∨ (i = B.length ∧ q = p) := by
  by_cases z : i < B.length
  · rw [List.getElem?_append_left z] at h
    exact .inl ⟨z, h⟩
  · rw [List.getElem?_append_right (by omega)] at h
    by_cases y : i - B.length = 0
    · rw [y] at h
      simp at h
      exact .inr ⟨by omega, h.symm⟩
    · rw [List.getElem?_eq_none (by simp; omega)] at h
      cases h
theorem app_get {B : Bg} {p q : Sl × Option V} {i : Nat} (h : B[i]? = some q) : (B ++ [p])[i]? = some q := by
  rw [List.getElem?_append_left (List.getElem?_eq_some_iff.mp h).1]; exact h
theorem app_last {B : Bg} {p : Sl × Option V} : (B ++ [p])[B.length]? = some p := by
  rw [List.getElem?_append_right (Nat.le_refl _)]; simp

/-- the last one away -/
theorem Bag.pop {p : Sl × Option V} (h : Bag R e F H (B ++ [p])) : Bag R e F H B :=
  ⟨h.sub, fun i s o g => h.all i s o (app_get g), fun i j s t o u a g1 g2 => h.dis i j s t o u a (app_get g1) (app_get g2), h.fr, h.frW, fun i s o a g => h.ow i s o a (app_get g), h.hf, h.hf0⟩
/-- one more that owns nothing -/
theorem Bag.push (h : Bag R e F H B) {s : Sl} {o : Option V} (hs : SlR R F H s o) (n : adr s o = none) : Bag R e F H (B ++ [(s, o)]) := by
  refine ⟨h.sub, fun i t u g => ?_, fun i j t t' u u' a g1 g2 a1 a2 => ?_, h.fr, h.frW, fun i t u a g a1 => ?_, h.hf, h.hf0⟩
  · rcases get_app g with ⟨_, g⟩ | ⟨_, g⟩
    · exact h.all i t u g
    · cases g; exact hs
  · rcases get_app g1 with ⟨_, g1⟩ | ⟨_, g1⟩
    · rcases get_app g2 with ⟨_, g2⟩ | ⟨_, g2⟩
      · exact h.dis i j t t' u u' a g1 g2 a1 a2
      · cases g2; rw [n] at a2; cases a2
    · cases g1; rw [n] at a1; cases a1
  · rcases get_app g with ⟨_, g⟩ | ⟨_, g⟩
    · exact h.ow i t u a g a1
    · cases g; rw [n] at a1; cases a1
theorem Bag.push_fz (h : Bag R e F H B) {p : PV} {x : V} (r : Rp R F p x) : Bag R e F H (B ++ [(.fz p, some x)]) := h.push ⟨x, rfl, r⟩ rfl
theorem Bag.push_un (h : Bag R e F H B) {o : Option V} : Bag R e F H (B ++ [(.un, o)]) := h.push trivial rfl

theorem upd_new {H : Hp} {p a : Addr} {o u : HO} (n : H p = none) (h : H a = some u) : upd H p o a = some u := by
  rw [upd_ne (ne_of_none h n)]; exact h
theorem sub_upd {H : Hp} {p : Addr} {o : HO} (n : H p = none) : Sub H (upd H p o) := fun a u h => upd_new n h
theorem sub_upd2 {F H : Hp} {p : Addr} {o : HO} (h : Sub F H) (n : F p = none) : Sub F (upd H p o) := fun a u q => by
  rw [upd_ne (ne_of_none q n)]; exact h a u q
theorem sub_both {F H : Hp} {p : Addr} {o : HO} (h : Sub F H) : Sub (upd F p o) (upd H p o) := fun a u q => by
  by_cases z : a = p
  · rw [z, upd_same] at q ⊢; exact q
  · rw [upd_ne z] at q ⊢; exact h a u q

/-- a new object laid in the heap, nobody's yet -/
theorem Bag.lay (h : Bag R e F H B) {p : Addr} {o : HO} (n : H p = none) : Bag R e F (upd H p o) B := by
  obtain ⟨n1, _, n3, n4⟩ := h.new n
  refine ⟨sub_upd2 h.sub n1, fun i s u g => (h.all i s u g).keep .refl fun a q => ?_, h.dis, fun a u q w => upd_new n (h.fr a u q w), fun a w z => ?_, h.ow, h.hf, h.hf0⟩
  · obtain ⟨q1, u, q2⟩ := h.tr g q
    exact ⟨q1, by rw [upd_ne (ne_of_none q2 n)]⟩
  · by_cases y : a = p
    · rw [y, upd_same] at z; cases z
    · rw [upd_ne y] at z; exact h.frW a w z
/-- what stands at p (nobody's own) is frozen -/
theorem Bag.ice (h : Bag R e F H B) {p : Addr} {o : HO} (q : H p = some o) (m : ∀ (i : Nat) (s : Sl) (u : Option V), B[i]? = some (s, u) → adr s u ≠ some p) (w : e.H p = none ∨ p ∈ e.W) (n : F p = none) : Bag R e (upd F p o) H B := by
  refine ⟨fun a u z => ?_, fun i s u g => (h.all i s u g).keep (sub_upd n) fun a y => ?_, h.dis, h.fr, h.frW, h.ow, fun a u z => ?_, h.hf0.trans (sub_upd n)⟩
  · by_cases y : a = p
    · rw [y, upd_same] at z; cases z; rw [y]; exact q
    · rw [upd_ne y] at z; exact h.sub a u z
  · obtain ⟨q1, _⟩ := h.tr g y
    exact ⟨by rw [upd_ne (fun z => m i s u g (by rw [y, z]))]; exact q1, rfl⟩
  · by_cases y : a = p
    · exact .inr (y ▸ w)
    · rw [upd_ne y] at z; exact h.hf a u z
/-- a new object that stays as it is -/
theorem Bag.lay_ice (h : Bag R e F H B) {p : Addr} {o : HO} (n : H p = none) : Bag R e (upd F p o) (upd H p o) B := by
  obtain ⟨n1, n2, _, _⟩ := h.new n
  refine (h.lay n).ice upd_same (fun i s u g q => ?_) n2 n1
  obtain ⟨_, v, z⟩ := h.tr g q
  rw [n] at z; cases z
theorem Bag.new_tup (h : Bag R e F H B) {p : Addr} {xs : List PV} {vs : List V} (n : H p = none) (r : RpL R F xs vs) :
    Bag R e (upd F p (.tup vs)) (upd H p (.tup vs)) (B ++ [(.fz (.tup xs), some (.ref p))]) :=
  (h.lay_ice n).push_fz (.tup (.inl upd_same) (r.mono (sub_upd (h.new n).1)))
theorem Bag.new_lst (h : Bag R e F H B) {p : Addr} {xs : List PV} {vs : List V} (n : H p = none) (r : RpL R F xs vs) :
    Bag R e F (upd H p (.lst vs)) (B ++ [(.own xs, some (.ref p))]) := by
  obtain ⟨n1, n2, _, _⟩ := h.new n
  have h2 := h.lay (o := .lst vs) n
  refine ⟨h2.sub, fun i s o g => ?_, fun i j t t' u u' a g1 g2 a1 a2 => ?_, h2.fr, h2.frW, fun i t u a g a1 => ?_, h2.hf, h2.hf0⟩
  · rcases get_app g with ⟨_, g⟩ | ⟨_, g⟩
    · exact h2.all i s o g
    · cases g; exact ⟨p, vs, rfl, n1, upd_same, r⟩
  · rcases get_app g1 with ⟨_, g1⟩ | ⟨l1, g1⟩
    · rcases get_app g2 with ⟨_, g2⟩ | ⟨l2, g2⟩
      · exact h.dis i j t t' u u' a g1 g2 a1 a2
      · cases g2
        obtain ⟨_, v, z⟩ := h.tr g1 a1
        cases a2
        rw [n] at z; cases z
    · rcases get_app g2 with ⟨_, g2⟩ | ⟨l2, g2⟩
      · cases g1
        obtain ⟨_, v, z⟩ := h.tr g2 a2
        cases a1
        rw [n] at z; cases z
      · rw [l1, l2]
  · rcases get_app g with ⟨_, g⟩ | ⟨_, g⟩
    · exact h.ow i t u a g a1
    · cases g; cases a1; exact n2

/-- an own list at place i stays as it is from now on -/
theorem Bag.freeze (h : Bag R e F H B) {i : Nat} {xs : List PV} {o : Option V} (g : B[i]? = some (.own xs, o)) : ∃ F', Sub F F' ∧ Bag R e F' H (B.set i (.fz (.lst xs), o)) := by
  obtain ⟨a, vs, rfl, h1, h2, r⟩ := h.all i _ _ g
  have h3 := h.put g (t := .un) trivial (fun _ z => nomatch z)
  have hi : i < B.length := (List.getElem?_eq_some_iff.mp g).1
  have no : ∀ (j : Nat) (s : Sl) (u : Option V), (B.set i (.un, some (.ref a)))[j]? = some (s, u) → adr s u ≠ some a := fun j s u q z => by
    by_cases y : i = j
    · subst y
      rw [List.getElem?_set_self hi] at q
      cases q; cases z
    · rw [List.getElem?_set_ne y] at q
      exact y (h.dis i j _ s _ u a g q rfl z)
  have h4 := h3.ice h2 no (h.ow i _ _ a g rfl) h1
  refine ⟨upd F a (.lst vs), sub_upd h1, ?_⟩
  have h5 := h4.put (i := i) (s := .un) (o := some (.ref a)) (t := .fz (.lst xs)) (List.getElem?_set_self hi) ⟨_, rfl, .lst upd_same (r.mono (sub_upd h1))⟩ (fun _ z => nomatch z)
  rw [List.set_set] at h5
  exact h5
/-- an own instance that is whole -/
theorem Bag.freezeObj (h : Bag R e F H B) {i c : Nat} {xs : List PV} {o : Option V} (g : B[i]? = some (.obj c xs, o)) (l : xs.length = (R.fl c).length) : ∃ F', Sub F F' ∧ Bag R e F' H (B.set i (.fz (.ins c xs), o)) := by
  obtain ⟨a, dx, vs, rfl, h1, h2, _, r⟩ := h.all i _ _ g
  have h3 := h.put g (t := .un) trivial (fun _ z => nomatch z)
  have hi : i < B.length := (List.getElem?_eq_some_iff.mp g).1
  have no : ∀ (j : Nat) (s : Sl) (u : Option V), (B.set i (.un, some (.ref a)))[j]? = some (s, u) → adr s u ≠ some a := fun j s u q z => by
    by_cases y : i = j
    · subst y
      rw [List.getElem?_set_self hi] at q
      cases q; cases z
    · rw [List.getElem?_set_ne y] at q
      exact y (h.dis i j _ s _ u a g q rfl z)
  have h4 := h3.ice h2 no (h.ow i _ _ a g rfl) h1
  refine ⟨upd F a (.ins (R.cl c) dx (((R.fl c).take xs.length).zip vs)), sub_upd h1, ?_⟩
  have h5 := h4.put (i := i) (s := .un) (o := some (.ref a)) (t := .fz (.ins c xs)) (List.getElem?_set_self hi) ⟨_, rfl, .ins (dx := dx) (vs := vs) (by rw [upd_same, l, List.take_length]) (by rw [← r.length, l]) (r.mono (sub_upd h1))⟩ (fun _ z => nomatch z)
  rw [List.set_set] at h5
  exact h5
/-- the own object at place i is written -/
theorem Bag.write (h : Bag R e F H B) {i : Nat} {s t : Sl} {a : Addr} {o : HO} (g : B[i]? = some (s, some (.ref a))) (q : adr s (some (.ref a)) = some a) (q' : adr t (some (.ref a)) = some a)
    (ht : SlR R F (upd H a o) t (some (.ref a))) : Bag R e F (upd H a o) (B.set i (t, some (.ref a))) := by
  have hi : i < B.length := (List.getElem?_eq_some_iff.mp g).1
  obtain ⟨n1, u0, n2⟩ := h.tr g q
  have at_ : ∀ (j : Nat) (u : Sl) (v : Option V), (B.set i (t, some (.ref a)))[j]? = some (u, v) → (j = i ∧ u = t ∧ v = some (.ref a)) ∨ (j ≠ i ∧ B[j]? = some (u, v)) := fun j u v q => by
    by_cases z : i = j
    · subst z
      rw [List.getElem?_set_self hi] at q
      cases q
      exact .inl ⟨rfl, rfl, rfl⟩
    · rw [List.getElem?_set_ne z] at q
      exact .inr ⟨fun y => z y.symm, q⟩
  refine ⟨sub_upd2 h.sub n1, fun j u v y => ?_, fun j k u w v x b q1 q2 a1 a2 => ?_, fun b u y w => ?_, fun b w z => ?_, fun j u v b y a1 => ?_, h.hf, h.hf0⟩
  · rcases at_ j u v y with ⟨_, rfl, rfl⟩ | ⟨nj, y⟩
    · exact ht
    · refine (h.all j u v y).keep .refl fun b z => ⟨(h.tr y z).1, ?_⟩
      rw [upd_ne]
      intro e1
      rw [e1] at z
      exact nj (h.dis j i u s v _ a y g z q)
  · rcases at_ j u v q1 with ⟨ej, eu, ev⟩ | ⟨n1, q1⟩
    · rcases at_ k w x q2 with ⟨ek, ew, ex⟩ | ⟨n2, q2⟩
      · rw [ej, ek]
      · rw [ej]
        rw [eu, ev, q'] at a1
        cases a1
        exact h.dis i k s w _ x _ g q2 q a2
    · rcases at_ k w x q2 with ⟨ek, ew, ex⟩ | ⟨n2, q2⟩
      · rw [ek]
        rw [ew, ex, q'] at a2
        cases a2
        exact h.dis j i u s v _ _ q1 g a1 q
      · exact h.dis j k u w v x b q1 q2 a1 a2
  · have hb := h.fr b u y w
    by_cases z : b = a
    · subst z
      rcases h.ow i s _ b g q with y' | y'
      · rw [y] at y'; cases y'
      · exact absurd y' w
    · rw [upd_ne z]; exact hb
  · by_cases y : b = a
    · rw [y, upd_same] at z; cases z
    · rw [upd_ne y] at z; exact h.frW b w z
  · rcases at_ j u v y with ⟨ej, eu, ev⟩ | ⟨_, y⟩
    · rw [eu, ev, q'] at a1
      cases a1
      exact h.ow i s _ _ g q
    · exact h.ow j u v b y a1
/-- what lies last is moved to place i, whose old content is given up -/
theorem Bag.move (h : Bag R e F H (B ++ [(t, u)])) {i : Nat} (hi : i < B.length) : Bag R e F H (B.set i (t, u)) := by
  have at_ : ∀ (j : Nat) (x : Sl) (v : Option V), (B.set i (t, u))[j]? = some (x, v) → (j = i ∧ x = t ∧ v = u) ∨ (j ≠ i ∧ B[j]? = some (x, v)) := fun j x v q => by
    by_cases z : i = j
    · subst z
      rw [List.getElem?_set_self hi] at q
      cases q
      exact .inl ⟨rfl, rfl, rfl⟩
    · rw [List.getElem?_set_ne z] at q
      exact .inr ⟨fun y => z y.symm, q⟩
  have gl : (B ++ [(t, u)])[B.length]? = some (t, u) := app_last
  have le : ∀ {j : Nat} {q : Sl × Option V}, B[j]? = some q → j < B.length := fun q => (List.getElem?_eq_some_iff.mp q).1
  refine ⟨h.sub, fun j x v q => ?_, fun j k x y v w a q1 q2 a1 a2 => ?_, h.fr, h.frW, fun j x v a q a1 => ?_, h.hf, h.hf0⟩
  · rcases at_ j x v q with ⟨_, rfl, rfl⟩ | ⟨_, q⟩
    · exact h.all _ _ _ gl
    · exact h.all j x v (app_get q)
  · rcases at_ j x v q1 with ⟨ej, eu, ev⟩ | ⟨n1, q1⟩
    · rcases at_ k y w q2 with ⟨ek, ew, ex⟩ | ⟨n2, q2⟩
      · rw [ej, ek]
      · rw [eu, ev] at a1
        have := h.dis _ k t y u w a gl (app_get q2) a1 a2
        exact absurd (le q2) (by omega)
    · rcases at_ k y w q2 with ⟨ek, ew, ex⟩ | ⟨n2, q2⟩
      · rw [ew, ex] at a2
        have := h.dis j _ x t v u a (app_get q1) gl a1 a2
        exact absurd (le q1) (by omega)
      · exact h.dis j k x y v w a (app_get q1) (app_get q2) a1 a2
  · rcases at_ j x v q with ⟨_, eu, ev⟩ | ⟨_, q⟩
    · rw [eu, ev] at a1
      exact h.ow _ t u a gl a1
    · exact h.ow j x v a (app_get q) a1
end
end PL
set_option Elab.async false
set_option linter.all false
set_option maxRecDepth 100000
set_option maxHeartbeats 4000000
/-! PLb: expressions by plain functions of the slots' contents. -/
namespace PL
open PySem PySem.Spec PyProof.Rows L2

abbrev PF := List Sl → Option (Sl × List Sl)
abbrev PFs := List Sl → Option (List Sl × List Sl)
abbrev PT' := List Sl → Option (Bool × List Sl)

def tmpOf : Sl → Sl
  | .pk _ => .un
  | .br _ s => s
  | s => s
/-- what a content is as a value, to be read -/
def cont (ρ : List Sl) : Sl → Option PV
  | .fz p => some p
  | .own xs => some (.lst xs)
  | .pk i => match ρ[i]? with
    | some (.fz p) => some p
    | some (.own xs) => some (.lst xs)
    | _ => none
  | _ => none
def conts (ρ : List Sl) : List Sl → Option (List PV)
  | [] => some []
  | s :: r => (cont ρ s).bind fun p => (conts ρ r).map fun ps => p :: ps

/-- x is the peeked slot's value -/
def PkOk (r : Sl) (σ : L2.St) (x : V) : Prop := ∀ i, (r = .pk i ∨ ∃ s, r = .br i s) → σ[i]? = some (some x)
theorem pk_fz {p : PV} {σ : L2.St} {x : V} : PkOk (.fz p) σ x := fun i z => by rcases z with z | ⟨_, z⟩ <;> cases z
theorem pk_own {p : List PV} {σ : L2.St} {x : V} : PkOk (.own p) σ x := fun i z => by rcases z with z | ⟨_, z⟩ <;> cases z
theorem pk_obj {c : Nat} {p : List PV} {σ : L2.St} {x : V} : PkOk (.obj c p) σ x := fun i z => by rcases z with z | ⟨_, z⟩ <;> cases z

def TEv (R : RE) (f : PF) : TE := fun σ H Q => ∃ (e : En) (F : Hp) (ρ : List Sl) (tm : Bg) (r : Sl) (ρ' : List Sl), ρ.length = σ.length ∧ Bag R e F H (ρ.zip σ ++ tm) ∧ f ρ = some (r, ρ') ∧
  ∀ x H' F', Bag R e F' H' (ρ'.zip σ ++ tm ++ [(tmpOf r, some x)]) → PkOk r σ x → Q x H'
def TTv (R : RE) (f : PT') : TT := fun σ H Q => ∃ (e : En) (F : Hp) (ρ : List Sl) (tm : Bg) (b : Bool) (ρ' : List Sl), ρ.length = σ.length ∧ Bag R e F H (ρ.zip σ ++ tm) ∧ f ρ = some (b, ρ') ∧
  ∀ H' F', Bag R e F' H' (ρ'.zip σ ++ tm) → Q b H'
def TAv (R : RE) (f : PFs) : TA := fun σ H Q => ∃ (e : En) (F : Hp) (ρ : List Sl) (tm : Bg) (rs : List Sl) (ρ' : List Sl), ρ.length = σ.length ∧ Bag R e F H (ρ.zip σ ++ tm) ∧ f ρ = some (rs, ρ') ∧
  ∀ xs H' F', Bag R e F' H' (ρ'.zip σ ++ tm ++ (rs.map tmpOf).zip (xs.map some)) → Paired (fun r x => PkOk r σ x) rs xs → Q xs H'

structure Ev (X : Cx) (R : RE) (e : Expr) (f : PF) : Prop where
  len : ∀ ρ r ρ', f ρ = some (r, ρ') → ρ'.length = ρ.length
  pe : PE X e (TEv R f)
structure Tv (X : Cx) (R : RE) (e : Expr) (f : PT') : Prop where
  len : ∀ ρ r ρ', f ρ = some (r, ρ') → ρ'.length = ρ.length
  pt : PT X e (TTv R f)
structure Av (X : Cx) (R : RE) (es : List Expr) (f : PFs) : Prop where
  len : ∀ ρ r ρ', f ρ = some (r, ρ') → ρ'.length = ρ.length
  cnt : ∀ ρ r ρ', f ρ = some (r, ρ') → r.length = es.length
  pa : PA X es (TAv R f)

section
variable {X : Cx} {e : Expr} {es : List Expr} {st : Stmt} {sts : List Stmt}
theorem pe_mono {t t' : TE} (h : PE X e t) (m : ∀ σ H Q, t' σ H Q → t σ H Q) : PE X e t' := ⟨fun pins s σ H Q I q => h.run pins s σ H Q I (m σ H Q q)⟩
theorem pt_mono {t t' : TT} (h : PT X e t) (m : ∀ σ H Q, t' σ H Q → t σ H Q) : PT X e t' := ⟨fun pins s σ H Q I q => h.run pins s σ H Q I (m σ H Q q)⟩
theorem pw_mono {t t' : TT} (h : PW X e t) (m : ∀ σ H Q, t' σ H Q → t σ H Q) : PW X e t' := ⟨fun w pins s σ H Q I q => h.run w pins s σ H Q I (m σ H Q q)⟩
theorem pa_mono {t t' : TA} (h : PA X es t) (m : ∀ σ H Q, t' σ H Q → t σ H Q) : PA X es t' := ⟨fun pos pins s σ H Q I q => h.run pos pins s σ H Q I (m σ H Q q)⟩
theorem ps_mono {t t' : TS} (h : PS X st t) (m : ∀ D σ H, t' D σ H → t D σ H) : PS X st t' := ⟨fun pins s σ H D I q => h.run pins s σ H D I (m D σ H q)⟩
theorem pss_mono {t t' : TS} (h : PSs X sts t) (m : ∀ D σ H, t' D σ H → t D σ H) : PSs X sts t' := ⟨fun pins s σ H D I q => h.run pins s σ H D I (m D σ H q)⟩
end

/-- to be read: frozen, or a list of one's own -/
def Rq (R : RE) (F H : Hp) (p : PV) (x : V) : Prop :=
  Rp R F p x ∨ ∃ a vs xs, x = .ref a ∧ p = .lst xs ∧ H a = some (.lst vs) ∧ RpL R F xs vs
theorem Rq.rp {R : RE} {F H : Hp} {p : PV} {x : V} (h : Rq R F H p x) (s : Sub F H) : Rp R H p x := by
  rcases h with h | ⟨a, vs, xs, rfl, rfl, h1, h2⟩
  · exact h.mono s
  · exact .lst h1 (h2.mono s)

section
variable {R : RE} {e : En} {F H : Hp} {B : Bg} {σ : L2.St} {ρ : List Sl} {tm : Bg}

theorem zip_get {ρ : List Sl} {σ : L2.St} {i : Nat} {s : Sl} {o : Option V} (h1 : ρ[i]? = some s) (h2 : σ[i]? = some o) : (ρ.zip σ)[i]? = some (s, o) := by
  rw [List.getElem?_zip_eq_some]; exact ⟨h1, h2⟩
theorem app_get' {B C : Bg} {q : Sl × Option V} {i : Nat} (h : B[i]? = some q) : (B ++ C)[i]? = some q := by
  rw [List.getElem?_append_left (List.getElem?_eq_some_iff.mp h).1]; exact h
theorem app_mid {B C : Bg} {p : Sl × Option V} : (B ++ p :: C)[B.length]? = some p := by
  rw [List.getElem?_append_right (Nat.le_refl _)]; simp

theorem Bag.rq_fz (h : Bag R e F H B) {i : Nat} {p : PV} {x : V} (g : B[i]? = some (.fz p, some x)) : Rq R F H p x := by
  obtain ⟨y, e1, r⟩ := h.all i _ _ g
  cases e1
  exact .inl r
theorem Bag.rq_own (h : Bag R e F H B) {i : Nat} {p : List PV} {x : V} (g : B[i]? = some (.own p, some x)) : Rq R F H (.lst p) x := by
  obtain ⟨a, vs, e1, _, h2, r⟩ := h.all i _ _ g
  cases e1
  exact .inr ⟨a, vs, p, rfl, rfl, h2, r⟩
/-- a temporary's content, read -/
theorem Bag.rq (h : Bag R e F H (ρ.zip σ ++ B)) {j : Nat} {r : Sl} {x : V} {p : PV} (g : (ρ.zip σ ++ B)[j]? = some (tmpOf r, some x)) (k : PkOk r σ x) (c : cont ρ r = some p) : Rq R F H p x := by
  cases r with
  | fz q => cases c; exact h.rq_fz g
  | own q => cases c; exact h.rq_own g
  | pk i =>
    have hs := k i (.inl rfl)
    unfold cont at c
    simp only at c
    split at c
    · rename_i q e1
      cases c
      exact h.rq_fz (app_get' (zip_get e1 hs))
    · rename_i q e1
      cases c
      exact h.rq_own (app_get' (zip_get e1 hs))
    · cases c
  | _ => cases c
theorem Rq.keep {F' H' : Hp} {p : PV} {x : V} (h : Rq R F H p x) (s : Sub F F') (k : ∀ a, x = .ref a → ∀ u, H a = some u → H' a = some u) : Rq R F' H' p x := by
  rcases h with h | ⟨a, vs, xs, rfl, rfl, h1, h2⟩
  · exact .inl (h.mono s)
  · exact .inr ⟨a, vs, xs, rfl, rfl, k a rfl _ h1, h2.mono s⟩
/-- lists and tuples, read -/
theorem Rq.lst {xs : List PV} {x : V} (h : Rq R F H (.lst xs) x) (s : Sub F H) : ∃ a vs, x = .ref a ∧ H a = some (.lst vs) ∧ RpL R F xs vs := by
  rcases h with h | ⟨a, vs, ys, rfl, e1, h1, h2⟩
  · cases h with
    | lst q r => exact ⟨_, _, rfl, s _ _ q, r⟩
  · cases e1
    exact ⟨a, vs, rfl, h1, h2⟩
theorem Rq.scr {xs : List PV} {x : V} (h : Rq R F H (.scr xs) x) (s : Sub F H) : ∃ a vs, x = .ref a ∧ SqL R.K H a vs ∧ RpL R F xs vs := by
  rcases h with h | ⟨a, vs, ys, rfl, e1, h1, h2⟩
  · cases h with
    | scr q r => exact ⟨_, _, rfl, s.sqL q, r⟩
  · cases e1
theorem Rq.tup {xs : List PV} {x : V} (h : Rq R F H (.tup xs) x) (s : Sub F H) : ∃ a vs, x = .ref a ∧ SqT R.K H a vs ∧ RpL R F xs vs := by
  rcases h with h | ⟨a, vs, ys, rfl, e1, h1, h2⟩
  · cases h with
    | tup q r => exact ⟨_, _, rfl, s.sqT q.sq, r⟩
  · cases e1
theorem Rq.int {i : Int} {x : V} (h : Rq R F H (.int i) x) : x = .int i := by
  rcases h with h | ⟨a, vs, ys, rfl, e1, h1, h2⟩
  · cases h; rfl
  · cases e1
theorem Rq.bl {i : Bool} {x : V} (h : Rq R F H (.bl i) x) : x = .bl i := by
  rcases h with h | ⟨a, vs, ys, rfl, e1, h1, h2⟩
  · cases h; rfl
  · cases e1
theorem Rq.str {i : Str} {x : V} (h : Rq R F H (.str i) x) : x = .str i := by
  rcases h with h | ⟨a, vs, ys, rfl, e1, h1, h2⟩
  · cases h; rfl
  · cases e1
theorem Rq.non {x : V} (h : Rq R F H .non x) : x = .non := by
  rcases h with h | ⟨a, vs, ys, rfl, e1, h1, h2⟩
  · cases h; rfl
  · cases e1
theorem Rq.ins {c : Nat} {xs : List PV} {x : V} (h : Rq R F H (.ins c xs) x) : Rp R F (.ins c xs) x := by
  rcases h with h | ⟨a, vs, ys, rfl, e1, h1, h2⟩
  · exact h
  · cases e1

end

/-! ### names and constants -/
/-- a name as a value: an own list is frozen by it -/
def eVar (i : Nat) : PF := fun ρ => match ρ[i]? with
  | some (.fz p) => some (.fz p, ρ)
  | some (.own xs) => some (.fz (.lst xs), ρ.set i (.fz (.lst xs)))
  | _ => none
/-- a name that is only read -/
def ePk (i : Nat) : PF := fun ρ => match ρ[i]? with
  | some (.fz p) => some (.fz p, ρ)
  | some (.own _) => some (.pk i, ρ)
  | _ => none
/-- a name lent to a call -/
def eBor (i : Nat) : PF := fun ρ => match ρ[i]? with
  | some (.fz p) => some (.fz p, ρ)
  | some (.own xs) => some (.br i (.own xs), ρ.set i .moved)
  | some (.obj c xs) => some (.br i (.obj c xs), ρ.set i .moved)
  | _ => none
/-- a name's list given away (it is not used any more) -/
def eMv (i : Nat) : PF := fun ρ => match ρ[i]? with
  | some (.fz p) => some (.fz p, ρ)
  | some (.own xs) => some (.own xs, ρ.set i .moved)
  | _ => none
def eC (p : PV) : PF := fun ρ => some (.fz p, ρ)

section
variable {X : Cx} {R : RE}
theorem zip_set {ρ : List Sl} {σ : L2.St} {i : Nat} {s : Sl} {o : Option V} (h : σ[i]? = some o) : (ρ.set i s).zip σ = (ρ.zip σ).set i (s, o) := by
  apply List.ext_getElem?
  intro j
  by_cases z : i = j
  · subst z
    by_cases hi : i < ρ.length
    · rw [List.getElem?_set_self (by
        rw [List.length_zip]
        have := (List.getElem?_eq_some_iff.mp h).1
        omega)]
      exact zip_get (List.getElem?_set_self hi) h
    · rw [List.getElem?_eq_none (by rw [List.length_zip, List.length_set]; omega), List.getElem?_eq_none (by rw [List.length_set, List.length_zip]; omega)]
  · rw [List.getElem?_set_ne z]
    cases q : (ρ.zip σ)[j]? with
    | none =>
      rw [List.getElem?_eq_none_iff] at q ⊢
      rw [List.length_zip] at q ⊢
      rw [List.length_set]
      exact q
    | some p =>
      obtain ⟨s', o'⟩ := p
      rw [List.getElem?_zip_eq_some] at q ⊢
      rw [List.getElem?_set_ne z]
      exact q
theorem app_set {B C : Bg} {i : Nat} {p : Sl × Option V} (h : i < B.length) : (B ++ C).set i p = B.set i p ++ C := by
  rw [List.set_append_left _ _ h]
theorem zip_lt {ρ : List Sl} {σ : L2.St} {i : Nat} (h1 : i < ρ.length) (h2 : ρ.length = σ.length) : i < (ρ.zip σ).length := by
  rw [List.length_zip]; omega
theorem slot_some {e : En} {F H : Hp} {ρ : List Sl} {σ : L2.St} {tm : Bg} (h : Bag R e F H (ρ.zip σ ++ tm)) (hl : ρ.length = σ.length) {i : Nat} {s : Sl} (g : ρ[i]? = some s) : ∃ o, σ[i]? = some o ∧ (ρ.zip σ ++ tm)[i]? = some (s, o) ∧ SlR R F H s o := by
  have hi := (List.getElem?_eq_some_iff.mp g).1
  have h2 : σ[i]? = some σ[i] := List.getElem?_eq_getElem (by omega)
  exact ⟨_, h2, app_get' (zip_get g h2), h.all i _ _ (app_get' (zip_get g h2))⟩

theorem ev_var {i : Nat} {x : Str} {pos : Pos} (hN : X.N[i]? = some x) (hv : Vis X.env.scope x) (hd : (x == ("__debug__" : Str)) = false := by decide) (hcd : (x == ("__classdict__" : Str)) = false := by decide) : Ev X R (.Name x pos) (eVar i) := by
  refine ⟨fun ρ r ρ' h => ?_, pe_mono (pe_var hN hv hd hcd) fun σ H Q h => ?_⟩
  · unfold eVar at h
    split at h
    · cases h; rfl
    · cases h; rw [List.length_set]
    · cases h
  · obtain ⟨e, F, ρ, tm, r, ρ', hl, hB, hf, k⟩ := h
    unfold eVar at hf
    split at hf
    · rename_i p g
      cases hf
      obtain ⟨o, h2, h3, x, rfl, h4⟩ := slot_some hB hl g
      exact ⟨x, h2, k x H F (hB.push_fz h4) pk_fz⟩
    · rename_i p g
      cases hf
      obtain ⟨o, h2, h3, h4⟩ := slot_some hB hl g
      obtain ⟨a, vs, rfl, h5, h6, h7⟩ := h4
      obtain ⟨F', s, hB'⟩ := hB.freeze h3
      have hi := (List.getElem?_eq_some_iff.mp g).1
      have h8 := hB'.all i _ _ (by rw [List.getElem?_set_self (by
        have := (List.getElem?_eq_some_iff.mp h3).1
        exact this)])
      obtain ⟨y, ey, h9⟩ := h8
      cases ey
      refine ⟨_, h2, k _ H F' ?_ pk_fz⟩
      rw [zip_set h2, ← app_set (zip_lt hi hl)]
      exact hB'.push_fz h9
    · cases hf
theorem ev_pk {i : Nat} {x : Str} {pos : Pos} (hN : X.N[i]? = some x) (hv : Vis X.env.scope x) (hd : (x == ("__debug__" : Str)) = false := by decide) (hcd : (x == ("__classdict__" : Str)) = false := by decide) : Ev X R (.Name x pos) (ePk i) := by
  refine ⟨fun ρ r ρ' h => ?_, pe_mono (pe_var hN hv hd hcd) fun σ H Q h => ?_⟩
  · unfold ePk at h
    split at h <;> cases h <;> rfl
  · obtain ⟨e, F, ρ, tm, r, ρ', hl, hB, hf, k⟩ := h
    unfold ePk at hf
    split at hf
    · rename_i p g
      cases hf
      obtain ⟨o, h2, h3, x, rfl, h4⟩ := slot_some hB hl g
      exact ⟨x, h2, k x H F (hB.push_fz h4) pk_fz⟩
    · rename_i p g
      cases hf
      obtain ⟨o, h2, h3, h4⟩ := slot_some hB hl g
      obtain ⟨a, vs, rfl, h5, h6, h7⟩ := h4
      exact ⟨_, h2, k _ H F hB.push_un fun j z => by rcases z with z | ⟨_, z⟩ <;> cases z; exact h2⟩
    · cases hf
theorem lend {e : En} {F H : Hp} {ρ : List Sl} {σ : L2.St} {tm : Bg} {s : Sl} {o : Option V} {i : Nat} (hB : Bag R e F H (ρ.zip σ ++ tm)) (hl : ρ.length = σ.length) (g : ρ[i]? = some s) (h2 : σ[i]? = some o) : Bag R e F H ((ρ.set i .moved).zip σ ++ tm ++ [(s, o)]) := by
  have hi := (List.getElem?_eq_some_iff.mp g).1
  have h3 : (ρ.zip σ ++ tm)[i]? = some (s, o) := app_get' (zip_get g h2)
  rw [zip_set h2, ← app_set (zip_lt hi hl)]
  have hb := hB.put h3 (t := .moved) trivial (fun _ z => nomatch z)
  -- the content at the end instead
  refine ⟨hB.sub, fun j t u q => ?_, fun j l t t' u u' a q1 q2 a1 a2 => ?_, hB.fr, hB.frW, fun j t u a q a1 => ?_, hB.hf, hB.hf0⟩
  · rcases get_app q with ⟨_, q⟩ | ⟨_, q⟩
    · exact hb.all j t u q
    · cases q; exact hB.all i _ _ h3
  · have nm : ∀ {j : Nat} {t : Sl} {u : Option V} {a : Addr}, ((ρ.zip σ ++ tm).set i (.moved, o))[j]? = some (t, u) → adr t u = some a → j ≠ i ∧ (ρ.zip σ ++ tm)[j]? = some (t, u) := by
      intro j t u a q z
      by_cases y : i = j
      · subst y
        rw [List.getElem?_set_self (List.getElem?_eq_some_iff.mp h3).1] at q
        cases q; cases z
      · rw [List.getElem?_set_ne y] at q
        exact ⟨fun w => y w.symm, q⟩
    rcases get_app q1 with ⟨l1, q1⟩ | ⟨l1, q1⟩
    · obtain ⟨n1, q1⟩ := nm q1 a1
      rcases get_app q2 with ⟨l2, q2⟩ | ⟨l2, q2⟩
      · obtain ⟨n2, q2⟩ := nm q2 a2
        exact hB.dis j l t t' u u' a q1 q2 a1 a2
      · cases q2
        exact absurd (hB.dis j i t s u o a q1 h3 a1 a2) n1
    · cases q1
      rcases get_app q2 with ⟨l2, q2⟩ | ⟨l2, q2⟩
      · obtain ⟨n2, q2⟩ := nm q2 a2
        exact absurd (hB.dis l i t' s u' o a q2 h3 a2 a1) n2
      · rw [l1, l2]
  · rcases get_app q with ⟨_, q⟩ | ⟨_, q⟩
    · exact hb.ow j t u a q a1
    · cases q; exact hB.ow i _ _ a h3 a1
theorem ev_bor {i : Nat} {x : Str} {pos : Pos} (hN : X.N[i]? = some x) (hv : Vis X.env.scope x) (hd : (x == ("__debug__" : Str)) = false := by decide) (hcd : (x == ("__classdict__" : Str)) = false := by decide) : Ev X R (.Name x pos) (eBor i) := by
  refine ⟨fun ρ r ρ' h => ?_, pe_mono (pe_var hN hv hd hcd) fun σ H Q h => ?_⟩
  · unfold eBor at h
    split at h
    · cases h; rfl
    · cases h; rw [List.length_set]
    · cases h; rw [List.length_set]
    · cases h
  · obtain ⟨e, F, ρ, tm, r, ρ', hl, hB, hf, k⟩ := h
    unfold eBor at hf
    split at hf
    · rename_i p g
      cases hf
      obtain ⟨o, h2, h3, x, rfl, h4⟩ := slot_some hB hl g
      exact ⟨x, h2, k x H F (hB.push_fz h4) pk_fz⟩
    · rename_i p g
      cases hf
      obtain ⟨o, h2, h3, h4⟩ := slot_some hB hl g
      obtain ⟨a, vs, rfl, h5, h6, h7⟩ := h4
      exact ⟨_, h2, k _ H F (lend hB hl g h2) fun j z => by rcases z with z | ⟨_, z⟩ <;> cases z; exact h2⟩
    · rename_i c p g
      cases hf
      obtain ⟨o, h2, h3, h4⟩ := slot_some hB hl g
      obtain ⟨a, dx, vs, rfl, h5, h6, h7⟩ := h4
      exact ⟨_, h2, k _ H F (lend hB hl g h2) fun j z => by rcases z with z | ⟨_, z⟩ <;> cases z; exact h2⟩
    · cases hf
theorem ev_mv {i : Nat} {x : Str} {pos : Pos} (hN : X.N[i]? = some x) (hv : Vis X.env.scope x) (hd : (x == ("__debug__" : Str)) = false := by decide) (hcd : (x == ("__classdict__" : Str)) = false := by decide) : Ev X R (.Name x pos) (eMv i) := by
  refine ⟨fun ρ r ρ' h => ?_, pe_mono (pe_var hN hv hd hcd) fun σ H Q h => ?_⟩
  · unfold eMv at h
    split at h
    · cases h; rfl
    · cases h; rw [List.length_set]
    · cases h
  · obtain ⟨e, F, ρ, tm, r, ρ', hl, hB, hf, k⟩ := h
    unfold eMv at hf
    split at hf
    · rename_i p g
      cases hf
      obtain ⟨o, h2, h3, x, rfl, h4⟩ := slot_some hB hl g
      exact ⟨x, h2, k x H F (hB.push_fz h4) pk_fz⟩
    · rename_i p g
      cases hf
      obtain ⟨o, h2, h3, h4⟩ := slot_some hB hl g
      obtain ⟨a, vs, rfl, h5, h6, h7⟩ := h4
      exact ⟨_, h2, k _ H F (lend hB hl g h2) pk_own⟩
    · cases hf
/-- an expression that is a plain constant -/
theorem ev_c {e : Expr} {v : V} {p : PV} (h : PE X e (tC v)) (r : ∀ F, Rp R F p v) : Ev X R e (eC p) := by
  refine ⟨fun ρ r ρ' h => by cases h; rfl, pe_mono h fun σ H Q h => ?_⟩
  obtain ⟨e, F, ρ, tm, r', ρ', hl, hB, hf, k⟩ := h
  cases hf
  exact k v H F (hB.push_fz (r F)) pk_fz
theorem ev_int {i : Int} {j : Nat} {pos : Pos} : Ev X R (.Constant (.int i) j pos) (eC (.int i)) := ev_c pe_int fun F => .int i
theorem ev_bl {i : Bool} {j : Nat} {pos : Pos} : Ev X R (.Constant (.bool i) j pos) (eC (.bl i)) := ev_c pe_bl fun F => .bl i
theorem ev_non {j : Nat} {pos : Pos} : Ev X R (.Constant .none j pos) (eC .non) := ev_c pe_non fun F => .non
theorem ev_str {i : Str} {j : Nat} {pos : Pos} : Ev X R (.Constant (.str i) j pos) (eC (.str i)) := ev_c pe_str fun F => .str i
end
end PL
set_option Elab.async false
set_option linter.all false
set_option maxRecDepth 100000
set_option maxHeartbeats 4000000
/-! PLc: operators. -/
namespace PL
open PySem PySem.Spec PyProof.Rows L2

/-- a new value: one that stays, or a list of one's own -/
inductive Vl where
  | fz (p : PV) | own (xs : List PV)
def Vl.sl : Vl → Sl
  | .fz p => .fz p
  | .own xs => .own xs
theorem tmp_sl (v : Vl) : tmpOf v.sl = v.sl := by cases v <;> rfl
theorem sl_pk (v : Vl) (σ : L2.St) (x : V) : PkOk v.sl σ x := by cases v; exact pk_fz; exact pk_own

def lineN : Nat := 16777216
theorem lineN_eq : lineN = sizeLine := by rw [sizeLine_eq]; rfl

/-! ### two operands -/
def eBin (op : PV → PV → Option Vl) (fa fb : PF) : PF := fun ρ => (fa ρ).bind fun x => (fb x.2).bind fun y => (cont y.2 x.1).bind fun p => (cont y.2 y.1).bind fun q => (op p q).map fun r => (r.sl, y.2)
def BinOk (R : RE) (op : PV → PV → Option Vl) (rd : R2) : Prop := ∀ (e : En) (F H : Hp) (B : Bg) (p q : PV) (x y : V) (r : Vl) (Q : VK), Bag R e F H B → Rq R F H p x → Rq R F H q y → op p q = some r →
  (∀ z H' F', Bag R e F' H' (B ++ [(r.sl, some z)]) → Q z H') → rd x y H Q
theorem BinOk.or {R : RE} {op op' : PV → PV → Option Vl} {rd rd' : R2} (h : BinOk R op rd) (h' : BinOk R op' rd') : BinOk R (fun p q => match op p q with | some r => some r | none => op' p q) (fun x y H Q => rd x y H Q ∨ rd' x y H Q) := by
  intro e F H B p q x y r Q hB hp hq ho k
  dsimp only at ho
  cases e1 : op p q with
  | some r' =>
    rw [e1] at ho
    cases ho
    exact .inl (h e F H B p q x y r Q hB hp hq e1 k)
  | none =>
    rw [e1] at ho
    exact .inr (h' e F H B p q x y r Q hB hp hq ho k)
section
variable {X : Cx} {R : RE} {a b : Expr} {fa fb : PF} {pos : Pos}
theorem eBin_some {op : PV → PV → Option Vl} {ρ ρ' : List Sl} {r : Sl} (h : eBin op fa fb ρ = some (r, ρ')) : ∃ r1 ρ1 r2 p q v, fa ρ = some (r1, ρ1) ∧ fb ρ1 = some (r2, ρ') ∧ cont ρ' r1 = some p ∧ cont ρ' r2 = some q ∧ op p q = some v ∧ r = v.sl := by
  unfold eBin at h
  rw [Option.bind_eq_some_iff] at h
  obtain ⟨⟨r1, ρ1⟩, h1, h⟩ := h
  rw [Option.bind_eq_some_iff] at h
  obtain ⟨⟨r2, ρ2⟩, h2, h⟩ := h
  rw [Option.bind_eq_some_iff] at h
  obtain ⟨p, h3, h⟩ := h
  rw [Option.bind_eq_some_iff] at h
  obtain ⟨q, h4, h⟩ := h
  rw [Option.map_eq_some_iff] at h
  obtain ⟨v, h5, h⟩ := h
  cases h
  exact ⟨r1, ρ1, r2, p, q, v, h1, h2, h3, h4, h5, rfl⟩
theorem bin_len {op : PV → PV → Option Vl} (la : ∀ ρ r ρ', fa ρ = some (r, ρ') → ρ'.length = ρ.length) (lb : ∀ ρ r ρ', fb ρ = some (r, ρ') → ρ'.length = ρ.length) : ∀ ρ r ρ', eBin op fa fb ρ = some (r, ρ') → ρ'.length = ρ.length := fun ρ r ρ' h => by
  obtain ⟨r1, ρ1, r2, p, q, v, h1, h2, _⟩ := eBin_some h
  exact (lb _ _ _ h2).trans (la _ _ _ h1)
/-- the reading of two operands and an operation on their values -/
theorem tOp_of {op : PV → PV → Option Vl} {rd : R2} (ho : BinOk R op rd) (la : ∀ ρ r ρ', fa ρ = some (r, ρ') → ρ'.length = ρ.length) (lb : ∀ ρ r ρ', fb ρ = some (r, ρ') → ρ'.length = ρ.length) (σ : L2.St) (H : Hp) (Q : VK)
    (h : TEv R (eBin op fa fb) σ H Q) : tOp rd (TEv R fa) (TEv R fb) σ H Q := by
  obtain ⟨e, F, ρ, tm, r, ρ', hl, hB, hf, k⟩ := h
  obtain ⟨r1, ρ1, r2, p, q, v, h1, h2, h3, h4, h5, rfl⟩ := eBin_some hf
  have l1 := la _ _ _ h1
  have l2 := lb _ _ _ h2
  refine ⟨e, F, ρ, tm, r1, ρ1, hl, hB, h1, fun x1 H1 F1 B1 k1 => ?_⟩
  rw [List.append_assoc] at B1
  refine ⟨e, F1, ρ1, tm ++ [(tmpOf r1, some x1)], r2, ρ', l1.trans hl, B1, h2, fun x2 H2 F2 B2 k2 => ?_⟩
  have hz : (ρ'.zip σ).length = σ.length := by rw [List.length_zip]; omega
  have g1 : (ρ'.zip σ ++ (tm ++ [(tmpOf r1, some x1)]) ++ [(tmpOf r2, some x2)])[(ρ'.zip σ ++ tm).length]? = some (tmpOf r1, some x1) := by
    rw [← List.append_assoc (ρ'.zip σ), List.append_assoc]; exact app_mid
  have g2 : (ρ'.zip σ ++ (tm ++ [(tmpOf r1, some x1)]) ++ [(tmpOf r2, some x2)])[(ρ'.zip σ ++ (tm ++ [(tmpOf r1, some x1)])).length]? = some (tmpOf r2, some x2) := app_last
  have q1 : Rq R F2 H2 p x1 := by
    rw [List.append_assoc] at B2 g1
    exact B2.rq g1 k1 h3
  have q2 : Rq R F2 H2 q x2 := by
    rw [List.append_assoc] at B2 g2
    exact B2.rq g2 k2 h4
  have B3 : Bag R e F2 H2 (ρ'.zip σ ++ tm) := by
    have B4 := B2.pop
    rw [← List.append_assoc] at B4
    exact B4.pop
  exact ho e F2 H2 _ p q x1 x2 v Q B3 q1 q2 h5 fun z H' F' B' => k z H' F' (by rw [tmp_sl]; exact B') (sl_pk v σ z)
theorem ev_bin {o : Operator} {op : PV → PV → Option Vl} {rd : R2} (hr : OpR X (binaryOp o) rd) (ho : BinOk R op rd) (ha : Ev X R a fa) (hb : Ev X R b fb) : Ev X R (.BinOp a o b pos) (eBin op fa fb) :=
  ⟨bin_len ha.len hb.len, pe_mono (pe_op hr ha.pe hb.pe) (tOp_of ho ha.len hb.len)⟩
theorem ev_cmp {o : CmpOp} {op : PV → PV → Option Vl} {rd : R2} (hr : OpR X (compareOp o) rd) (ho : BinOk R op rd) (ha : Ev X R a fa) (hb : Ev X R b fb) (hm : behindInMarks o b = false) : Ev X R (.Compare a [o] [b] pos) (eBin op fa fb) :=
  ⟨bin_len ha.len hb.len, pe_mono (pe_cmpR hr ha.pe hb.pe hm) (tOp_of ho ha.len hb.len)⟩
/-- a value that is a bool, as a test -/
def tOf (f : PF) : PT' := fun ρ => (f ρ).bind fun x => match x.1 with
  | .fz (.bl b) => some (b, x.2)
  | _ => none
theorem tOf_some {f : PF} {ρ ρ' : List Sl} {b : Bool} (h : tOf f ρ = some (b, ρ')) : f ρ = some (.fz (.bl b), ρ') := by
  unfold tOf at h
  rw [Option.bind_eq_some_iff] at h
  obtain ⟨⟨r, ρ1⟩, h1, h⟩ := h
  cases r with
  | fz p =>
    cases p with
    | bl b' => cases h; exact h1
    | _ => cases h
  | _ => cases h
theorem tTest_of {f : PF} (σ : L2.St) (H : Hp) (Q : Bool → Hp → Prop) (h : TTv R (tOf f) σ H Q) : TEv R f σ H fun x H' => ∃ k, x = .bl k ∧ Q k H' := by
  obtain ⟨e, F, ρ, tm, b, ρ', hl, hB, hf, k⟩ := h
  refine ⟨e, F, ρ, tm, _, ρ', hl, hB, tOf_some hf, fun x H' F' B' _ => ⟨b, ?_, k H' F' B'.pop⟩⟩
  have := B'.rq_fz (x := x) (p := .bl b) app_last
  exact this.bl
theorem tOf_len {f : PF} (l : ∀ ρ r ρ', f ρ = some (r, ρ') → ρ'.length = ρ.length) : ∀ ρ r ρ', tOf f ρ = some (r, ρ') → ρ'.length = ρ.length := fun ρ r ρ' h => l _ _ _ (tOf_some h)
theorem tv_val (h : Ev X R a fa) (he : ∀ whole, isTrue a X.env whole = (do let v ← whole; standAt a.pos; holding [v] (truthy v)) := by intro _; rfl) : Tv X R a (tOf fa) :=
  ⟨tOf_len h.len, pt_mono (pt_val h.pe he) fun σ H Q q => tTest_of σ H Q q⟩
theorem tv_cmp {o : CmpOp} {op : PV → PV → Option Vl} {rd : R2} (hr : OpR X (compareOp o) rd) (ho : BinOk R op rd) (ha : Ev X R a fa) (hb : Ev X R b fb) (hm : behindInMarks o b = false) : Tv X R (.Compare a [o] [b] pos) (tOf (eBin op fa fb)) :=
  ⟨tOf_len (bin_len ha.len hb.len), pt_mono (pt_cmpR hr ha.pe hb.pe hm) fun σ H Q q => tOp_of ho ha.len hb.len σ H _ (tTest_of σ H Q q)⟩
end

/-! ### the operations -/
def opInt (C : Int → Int → Bool) (g : Int → Int → Int) : PV → PV → Option Vl
  | .int i, .int j => if C i j = true then some (.fz (.int (g i j))) else none
  | _, _ => none
def opCmp (g : Int → Int → Bool) : PV → PV → Option Vl
  | .int i, .int j => some (.fz (.bl (g i j)))
  | _, _ => none
theorem bin_int {R : RE} {C : Int → Int → Bool} {D : Int → Int → Prop} {g : Int → Int → Int} (hc : ∀ i j, C i j = true → D i j) : BinOk R (opInt C g) (rI D fun i j => .int (g i j)) := by
  intro e F H B p q x y r Q hB hp hq ho k
  unfold opInt at ho
  split at ho
  · rename_i i j
    split at ho
    · rename_i c
      cases ho
      exact ⟨i, j, hp.int, hq.int, hc i j c, k _ H F (hB.push_fz (.int _))⟩
    · cases ho
  · cases ho
theorem bin_int0 {R : RE} {g : Int → Int → Int} : BinOk R (opInt (fun _ _ => true) g) (rI0 fun i j => .int (g i j)) := by
  intro e F H B p q x y r Q hB hp hq ho k
  unfold opInt at ho
  split at ho
  · rename_i i j
    cases ho
    exact ⟨i, j, hp.int, hq.int, k _ H F (hB.push_fz (.int _))⟩
  · cases ho
theorem bin_cmp {R : RE} {g : Int → Int → Bool} : BinOk R (opCmp g) (rI0 fun i j => .bl (g i j)) := by
  intro e F H B p q x y r Q hB hp hq ho k
  unfold opCmp at ho
  split at ho
  · rename_i i j
    cases ho
    exact ⟨i, j, hp.int, hq.int, k _ H F (hB.push_fz (.bl _))⟩
  · cases ho
def opCatT : PV → PV → Option Vl
  | .tup xs, .tup ys => if xs.length + ys.length ≤ lineN then some (.fz (.tup (xs ++ ys))) else none
  | _, _ => none
def opCatL : PV → PV → Option Vl
  | .lst xs, .lst ys => if xs.length + ys.length ≤ lineN then some (.own (xs ++ ys)) else none
  | _, _ => none
def opCatS : PV → PV → Option Vl
  | .str xs, .str ys => if xs.length + ys.length ≤ lineN then some (.fz (.str (xs ++ ys))) else none
  | _, _ => none
theorem RpL.nil_iff {R : RE} {F : Hp} {ps : List PV} {vs : List V} (h : RpL R F ps vs) : vs = [] ↔ ps = [] := by
  cases h <;> simp
theorem bin_catT {R : RE} : BinOk R opCatT (rCatA R.K) := by
  intro e F H B p q x y r Q hB hp hq ho k
  unfold opCatT at ho
  split at ho
  · rename_i xs ys
    split at ho
    · rename_i c
      cases ho
      have hp' := hp; have hq' := hq
      obtain ⟨a, vs, rfl, h1, r1⟩ := hp.tup hB.sub
      obtain ⟨b, us, rfl, h2, r2⟩ := hq.tup hB.sub
      refine ⟨a, b, vs, us, rfl, rfl, h1, h2, by rw [← r1.length, ← r2.length, ← lineN_eq]; exact c, fun z => ?_, fun z1 z2 => ?_, fun z1 z2 p n => ?_⟩
      · rw [r1.nil_iff] at z
        subst z
        rcases hq' with h | ⟨_, _, _, _, z, _⟩
        · exact k _ H F (hB.push_fz h)
        · cases z
      · rw [r2.nil_iff] at z2
        subst z2
        rcases hp' with h | ⟨_, _, _, _, z, _⟩
        · exact k _ H F (by rw [List.append_nil]; exact hB.push_fz h)
        · cases z
      · exact k _ _ _ (hB.new_tup n (r1.append r2))
    · cases ho
  · cases ho
theorem bin_catL {R : RE} : BinOk R opCatL rCat := by
  intro e F H B p q x y r Q hB hp hq ho k
  unfold opCatL at ho
  split at ho
  · rename_i xs ys
    split at ho
    · rename_i c
      cases ho
      obtain ⟨a, vs, rfl, h1, r1⟩ := hp.lst hB.sub
      obtain ⟨b, us, rfl, h2, r2⟩ := hq.lst hB.sub
      refine ⟨a, b, vs, us, rfl, rfl, h1, h2, by rw [← r1.length, ← r2.length, ← lineN_eq]; exact c, fun p n => k _ _ _ (hB.new_lst n (r1.append r2))⟩
    · cases ho
  · cases ho
theorem bin_catS {R : RE} : BinOk R opCatS (fun x y H Q => ∃ i j, x = .str i ∧ y = .str j ∧ i.length + j.length ≤ sizeLine ∧ Q (.str (i ++ j)) H) := by
  intro e F H B p q x y r Q hB hp hq ho k
  unfold opCatS at ho
  split at ho
  · rename_i xs ys
    split at ho
    · rename_i c
      cases ho
      exact ⟨xs, ys, hp.str, hq.str, by rw [← lineN_eq]; exact c, k _ H F (hB.push_fz (.str _))⟩
    · cases ho
  · cases ho
/-- x + y, whatever they are -/
def opAdd : PV → PV → Option Vl
  | .int i, .int j => some (.fz (.int (i + j)))
  | .tup xs, .tup ys => if xs.length + ys.length ≤ lineN then some (.fz (.tup (xs ++ ys))) else none
  | .lst xs, .lst ys => if xs.length + ys.length ≤ lineN then some (.own (xs ++ ys)) else none
  | .str xs, .str ys => if xs.length + ys.length ≤ lineN then some (.fz (.str (xs ++ ys))) else none
  | _, _ => none
theorem BinOk.imp {R : RE} {op op' : PV → PV → Option Vl} {rd : R2} (h : BinOk R op rd) (i : ∀ p q r, op' p q = some r → op p q = some r) : BinOk R op' rd := by
  intro e F H B p q x y r Q hB hp hq ho k
  exact h e F H B p q x y r Q hB hp hq (i p q r ho) k
theorem opr_add {X : Cx} : OpR X (binaryOp .Add) (fun x y H Q => rI0 (fun i j => .int (i + j)) x y H Q ∨ (rCatA X.K x y H Q ∨ (rCat x y H Q ∨ ∃ i j, x = .str i ∧ y = .str j ∧ i.length + j.length ≤ sizeLine ∧ Q (.str (i ++ j)) H))) :=
  op_add.or (op_catA.or (op_cat.or op_add_str))
theorem bin_add {R : RE} : BinOk R opAdd (fun x y H Q => rI0 (fun i j => .int (i + j)) x y H Q ∨ (rCatA R.K x y H Q ∨ (rCat x y H Q ∨ ∃ i j, x = .str i ∧ y = .str j ∧ i.length + j.length ≤ sizeLine ∧ Q (.str (i ++ j)) H))) := by
  refine (bin_int0 (g := fun i j => i + j).or (bin_catT.or (bin_catL.or bin_catS))).imp fun p q r h => ?_
  unfold opAdd at h
  split at h
  · exact h
  all_goals first
    | cases h
    | (split at h
       · rename_i c
         simp only [opInt, opCatT, opCatL, opCatS, if_pos c]
         exact h
       · cases h)
theorem ev_add {X : Cx} {R : RE} (hK : R.K = X.K) {a b : Expr} {fa fb : PF} {pos : Pos} (ha : Ev X R a fa) (hb : Ev X R b fb) : Ev X R (.BinOp a .Add b pos) (eBin opAdd fa fb) :=
  ev_bin (by rw [hK]; exact opr_add) bin_add ha hb
def opSub : PV → PV → Option Vl
  | .int i, .int j => some (.fz (.int (i - j)))
  | _, _ => none
theorem ev_sub {X : Cx} {R : RE} {a b : Expr} {fa fb : PF} {pos : Pos} (ha : Ev X R a fa) (hb : Ev X R b fb) : Ev X R (.BinOp a .Sub b pos) (eBin opSub fa fb) :=
  ev_bin op_sub ((bin_int0 (g := fun i j => i - j)).imp fun p q r h => by unfold opSub at h; split at h <;> first | exact h | cases h) ha hb
/-- products: of ints one of which is small, or both not too great; of a list and an int, a tuple and an int -/
def mulOk (i j : Int) : Bool := decide (-(2 ^ 64) < i ∧ i < 2 ^ 64) || decide (-(2 ^ 64) < j ∧ j < 2 ^ 64) || decide (i.natAbs.log2 + j.natAbs.log2 < 1000000)
def opMul : PV → PV → Option Vl
  | .int i, .int j => if mulOk i j = true then some (.fz (.int (i * j))) else none
  | .lst xs, .int k => if k < 2 ^ 63 ∧ -(2 ^ 63) ≤ k ∧ xs.length * k.toNat ≤ lineN then some (.own (List.replicate k.toNat xs).flatten) else none
  | .tup xs, .int k => if 2 ≤ k ∧ k ≤ 1000 ∧ xs.length ≤ 1000 ∧ xs.isEmpty = false then some (.fz (.tup (List.replicate k.toNat xs).flatten)) else none
  | _, _ => none
theorem opr_mul {X : Cx} : OpR X (binaryOp .Mult) (fun x y H Q => rI CMul (fun i j => .int (i * j)) x y H Q ∨ (rI CMulW (fun i j => .int (i * j)) x y H Q ∨ (rRep x y H Q ∨ rRepT X.K x y H Q))) := op_mul.or (op_mulW.or (op_rep.or op_repT))
theorem bin_mul {R : RE} : BinOk R opMul (fun x y H Q => rI CMul (fun i j => .int (i * j)) x y H Q ∨ (rI CMulW (fun i j => .int (i * j)) x y H Q ∨ (rRep x y H Q ∨ rRepT R.K x y H Q))) := by
  intro e F H B p q x y r Q hB hp hq ho k
  unfold opMul at ho
  split at ho
  · rename_i i j
    split at ho
    · rename_i c
      cases ho
      have fin : Q (.int (i * j)) H := k _ H F (hB.push_fz (.int _))
      unfold mulOk at c
      simp only [Bool.or_eq_true, decide_eq_true_eq] at c
      rcases c with (c | c) | c
      · exact .inl ⟨i, j, hp.int, hq.int, .inl c, fin⟩
      · exact .inl ⟨i, j, hp.int, hq.int, .inr c, fin⟩
      · exact .inr (.inl ⟨i, j, hp.int, hq.int, c, fin⟩)
    · cases ho
  · rename_i xs j
    split at ho
    · rename_i c
      cases ho
      obtain ⟨a, vs, rfl, h1, r1⟩ := hp.lst hB.sub
      exact .inr (.inr (.inl ⟨a, j, vs, rfl, hq.int, h1, c.2.1, c.1, by rw [← r1.length, ← lineN_eq]; exact c.2.2, fun p n => k _ _ _ (hB.new_lst n (r1.rep _))⟩))
    · cases ho
  · rename_i xs j
    split at ho
    · rename_i c
      cases ho
      obtain ⟨a, vs, rfl, h1, r1⟩ := hp.tup hB.sub
      exact .inr (.inr (.inr ⟨a, j, vs, rfl, hq.int, h1, (fun z => by rw [r1.nil_iff] at z; rw [z] at c; cases c.2.2.2), c.1, c.2.1, by rw [← r1.length]; exact c.2.2.1, fun p n => k _ _ _ (hB.new_tup n (r1.rep _))⟩))
    · cases ho
  · cases ho
theorem ev_mul {X : Cx} {R : RE} (hK : R.K = X.K) {a b : Expr} {fa fb : PF} {pos : Pos} (ha : Ev X R a fa) (hb : Ev X R b fb) : Ev X R (.BinOp a .Mult b pos) (eBin opMul fa fb) :=
  ev_bin (by rw [hK]; exact opr_mul) bin_mul ha hb
def opMod : PV → PV → Option Vl
  | .int i, .int j => if 0 < j then some (.fz (.int (i % j))) else none
  | _, _ => none
theorem ev_mod {X : Cx} {R : RE} {a b : Expr} {fa fb : PF} {pos : Pos} (ha : Ev X R a fa) (hb : Ev X R b fb) : Ev X R (.BinOp a .Mod b pos) (eBin opMod fa fb) :=
  ev_bin op_mod ((bin_int (C := fun _ j => decide (0 < j)) (D := fun _ j => 0 < j) (g := fun i j => i % j) fun i j c => of_decide_eq_true c).imp fun p q r h => by
    unfold opMod at h
    split at h
    · split at h
      · rename_i c; simp only [opInt, decide_eq_true c]; exact h
      · cases h
    · cases h) ha hb
def opFdiv : PV → PV → Option Vl
  | .int i, .int j => if 0 < j ∧ j.natAbs.log2 < 9000 then some (.fz (.int (i / j))) else none
  | _, _ => none
theorem ev_fdiv {X : Cx} {R : RE} {a b : Expr} {fa fb : PF} {pos : Pos} (ha : Ev X R a fa) (hb : Ev X R b fb) : Ev X R (.BinOp a .FloorDiv b pos) (eBin opFdiv fa fb) :=
  ev_bin op_fdivW ((bin_int (C := fun _ j => decide (0 < j ∧ j.natAbs.log2 < 9000)) (D := CDivW) (g := fun i j => i / j) fun i j c => show 0 < j ∧ j.natAbs.log2 < 9000 from of_decide_eq_true c).imp fun p q r h => by
    unfold opFdiv at h
    split at h
    · split at h
      · rename_i c; simp only [opInt, decide_eq_true c]; exact h
      · cases h
    · cases h) ha hb
def opPow : PV → PV → Option Vl
  | .int i, .int j => if 0 ≤ j ∧ j ≤ 1000000 ∧ i.natAbs < 2 ^ 64 then some (.fz (.int (i ^ j.toNat))) else none
  | _, _ => none
theorem ev_pow {X : Cx} {R : RE} {a b : Expr} {fa fb : PF} {pos : Pos} (ha : Ev X R a fa) (hb : Ev X R b fb) : Ev X R (.BinOp a .Pow b pos) (eBin opPow fa fb) :=
  ev_bin op_pow ((bin_int (C := fun i j => decide (0 ≤ j ∧ j ≤ 1000000 ∧ i.natAbs < 2 ^ 64)) (D := CPow) (g := fun i j => i ^ j.toNat) fun i j c => show 0 ≤ j ∧ j ≤ 1000000 ∧ i.natAbs < 2 ^ 64 from of_decide_eq_true c).imp fun p q r h => by
    unfold opPow at h
    split at h
    · split at h
      · rename_i c; simp only [opInt, decide_eq_true c]; exact h
      · cases h
    · cases h) ha hb

/-! ### == -/
mutual
def toD : PV → PyData
  | .non => .none
  | .bl b => .bool b
  | .int i => .int i
  | .str x => .str x
  | .tup xs => .tuple (toDs xs)
  | .lst xs => .list (toDs xs)
  | .scr xs => .list (toDs xs)
  | .ins _ _ => .none
  | .ty _ => .none
  | .cls _ => .none
def toDs : List PV → List PyData
  | [] => []
  | x :: xs => toD x :: toDs xs
end
mutual
/-- data without instances, no deeper than n -/
def datN : Nat → PV → Bool
  | _, .non => true
  | _, .bl _ => true
  | _, .int _ => true
  | _, .str x => PyData.strOk x
  | n + 1, .tup xs => datNs n xs
  | n + 1, .lst xs => datNs n xs
  | _, _ => false
def datNs : Nat → List PV → Bool
  | _, [] => true
  | n, x :: xs => datN n x && datNs n xs
end
mutual
/-- equal as Python has it -/
def eqP : PV → PV → Bool
  | .non, .non => true
  | .bl a, .bl b => a == b
  | .bl a, .int j => (if a then 1 else 0) == j
  | .int i, .bl b => i == (if b then 1 else 0)
  | .int i, .int j => i == j
  | .str x, .str y => x == y
  | .lst xs, .lst ys => eqPs xs ys
  | .tup xs, .tup ys => eqPs xs ys
  | _, _ => false
def eqPs : List PV → List PV → Bool
  | [], [] => true
  | x :: xs, y :: ys => eqP x y && eqPs xs ys
  | _, _ => false
end
theorem datNs_all (n : Nat) : ∀ xs : List PV, datNs n xs = xs.all (datN n)
  | [] => by simp [datNs]
  | x :: xs => by rw [datNs, datNs_all n xs, List.all_cons]
theorem eqv_mixed : True := trivial
mutual
theorem eqv_toD : ∀ (n m : Nat) (p q : PV), datN n p = true → datN m q = true → PyData.eqv (toD p) (toD q) = eqP p q
  | n, m, .non, q, h, k => by
    cases q <;> first | (simp [datN] at k; done) | rfl | (simp only [toD, PyData.eqv, eqP]; done)
  | n, m, .bl b, q, h, k => by
    cases q <;> first | (simp [datN] at k; done) | rfl | (simp only [toD, PyData.eqv, eqP]; done)
  | n, m, .int i, q, h, k => by
    cases q <;> first | (simp [datN] at k; done) | rfl | (simp only [toD, PyData.eqv, eqP]; done)
  | n, m, .str x, q, h, k => by
    cases q <;> first | (simp [datN] at k; done) | rfl | (simp only [toD, PyData.eqv, eqP]; done)
  | 0, m, .tup xs, q, h, k => by simp [datN] at h
  | 0, m, .lst xs, q, h, k => by simp [datN] at h
  | n + 1, m, .tup xs, q, h, k => by
    cases q with
    | tup ys =>
      cases m with
      | zero => simp [datN] at k
      | succ m =>
        rw [datN] at h k
        rw [toD, toD, PyData.eqv, eqP]
        exact eqv_toDs n m xs ys h k
    | _ => first | (simp [datN] at k; done) | rfl | (simp only [toD, PyData.eqv, eqP]; done)
  | n + 1, m, .lst xs, q, h, k => by
    cases q with
    | lst ys =>
      cases m with
      | zero => simp [datN] at k
      | succ m =>
        rw [datN] at h k
        rw [toD, toD, PyData.eqv, eqP]
        exact eqv_toDs n m xs ys h k
    | _ => first | (simp [datN] at k; done) | rfl | (simp only [toD, PyData.eqv, eqP]; done)
  | n, m, .scr xs, q, h, k => by simp [datN] at h
  | n, m, .ins c xs, q, h, k => by simp [datN] at h
  | n, m, .ty t, q, h, k => by simp [datN] at h
  | n, m, .cls c, q, h, k => by simp [datN] at h
theorem eqv_toDs : ∀ (n m : Nat) (p q : List PV), datNs n p = true → datNs m q = true → PyData.eqvAll (toDs p) (toDs q) = eqPs p q
  | n, m, [], [], h, k => rfl
  | n, m, [], y :: ys, h, k => rfl
  | n, m, x :: xs, [], h, k => rfl
  | n, m, x :: xs, y :: ys, h, k => by
    rw [datNs, Bool.and_eq_true] at h k
    rw [toDs, toDs, PyData.eqvAll, eqPs, eqv_toD n m x y h.1 k.1, eqv_toDs n m xs ys h.2 k.2]
end
mutual
theorem canLay_toD : ∀ (n : Nat) (p : PV), datN n p = true → (toD p).canLay0 = true
  | n, .non, h => by simp only [toD, PyData.canLay0]
  | n, .bl b, h => by simp only [toD, PyData.canLay0]
  | n, .int i, h => by simp only [toD, PyData.canLay0]
  | n, .str x, h => by rw [toD, PyData.canLay0]; rw [datN] at h; exact h
  | 0, .tup xs, h => by simp [datN] at h
  | 0, .lst xs, h => by simp [datN] at h
  | n + 1, .tup xs, h => by rw [datN] at h; rw [toD, PyData.canLay0]; exact canLay_toDs n xs h
  | n + 1, .lst xs, h => by rw [datN] at h; rw [toD, PyData.canLay0]; exact canLay_toDs n xs h
  | n, .scr xs, h => by simp [datN] at h
  | n, .ins c xs, h => by simp [datN] at h
  | n, .ty t, h => by simp [datN] at h
  | n, .cls c, h => by simp [datN] at h
theorem canLay_toDs : ∀ (n : Nat) (p : List PV), datNs n p = true → PyData.canLayAll0 (toDs p) = true
  | n, [], h => by simp only [toDs, PyData.canLayAll0]
  | n, x :: xs, h => by
    rw [datNs, Bool.and_eq_true] at h
    rw [toDs, PyData.canLayAll0, canLay_toD n x h.1, canLay_toDs n xs h.2]; rfl
end
mutual
theorem depth_toD : ∀ (n : Nat) (p : PV), datN n p = true → (toD p).depth ≤ n + 1
  | n, .non, h => by simp only [toD, PyData.depth]; omega
  | n, .bl b, h => by simp only [toD, PyData.depth]; omega
  | n, .int i, h => by simp only [toD, PyData.depth]; omega
  | n, .str x, h => by simp only [toD, PyData.depth]; omega
  | 0, .tup xs, h => by simp [datN] at h
  | 0, .lst xs, h => by simp [datN] at h
  | n + 1, .tup xs, h => by rw [datN] at h; rw [toD, PyData.depth]; have := depth_toDs n xs h; omega
  | n + 1, .lst xs, h => by rw [datN] at h; rw [toD, PyData.depth]; have := depth_toDs n xs h; omega
  | n, .scr xs, h => by simp [datN] at h
  | n, .ins c xs, h => by simp [datN] at h
  | n, .ty t, h => by simp [datN] at h
  | n, .cls c, h => by simp [datN] at h
theorem depth_toDs : ∀ (n : Nat) (p : List PV), datNs n p = true → PyData.depthAll (toDs p) ≤ n + 1
  | n, [], h => by simp only [toDs, PyData.depthAll]; omega
  | n, x :: xs, h => by
    rw [datNs, Bool.and_eq_true] at h
    rw [toDs, PyData.depthAll]
    have h1 := depth_toD n x h.1
    have h2 := depth_toDs n xs h.2
    omega
end
mutual
theorem dp_of {R : RE} {F H : Hp} (s : Sub F H) : ∀ (n : Nat) (p : PV) (x : V), datN n p = true → Rp R F p x → Dp R.K H x (toD p)
  | n, .non, _, h, r => by cases r; exact .non
  | n, .bl b, _, h, r => by cases r; exact .bl b
  | n, .int i, _, h, r => by cases r; exact .int i
  | n, .str x, _, h, r => by cases r; exact .str x
  | 0, .tup xs, _, h, r => by simp [datN] at h
  | 0, .lst xs, _, h, r => by simp [datN] at h
  | n + 1, .tup xs, _, h, r => by
    rw [datN] at h
    cases r with
    | tup q r => rw [toD]; exact .tup (s.sqT q.sq) (dps_of s n xs _ h r)
  | n + 1, .lst xs, _, h, r => by
    rw [datN] at h
    cases r with
    | lst q r => rw [toD]; exact .lst (SqL.of (s _ _ q)) (dps_of s n xs _ h r)
  | n, .scr xs, _, h, r => by simp [datN] at h
  | n, .ins c xs, _, h, r => by simp [datN] at h
  | n, .ty t, _, h, r => by simp [datN] at h
  | n, .cls c, _, h, r => by simp [datN] at h
theorem dps_of {R : RE} {F H : Hp} (s : Sub F H) : ∀ (n : Nat) (p : List PV) (x : List V), datNs n p = true → RpL R F p x → DpAll R.K H x (toDs p)
  | n, [], _, h, r => by cases r; exact .nil
  | n, x :: xs, _, h, r => by
    rw [datNs, Bool.and_eq_true] at h
    cases r with
    | cons q r => exact .cons (dp_of s n x _ h.1 q) (dps_of s n xs _ h.2 r)
end
theorem shaped_toD {p : PV} (h : datN 60 p = true) : SeqAt.shaped (toD p) = true := by
  unfold SeqAt.shaped
  have h1 := depth_toD 60 p h
  rw [canLay_toD 60 p h, decide_eq_true (by omega)]; rfl
theorem Rq.dp {R : RE} {F H : Hp} {p : PV} {x : V} (h : Rq R F H p x) (s : Sub F H) (d : datN 60 p = true) : Dp R.K H x (toD p) := dp_of Sub.refl 60 p x d (h.rp s)

def opEq : PV → PV → Option Vl := fun p q => if datN 60 p = true ∧ datN 60 q = true then some (.fz (.bl (eqP p q))) else none
def opNe : PV → PV → Option Vl := fun p q => if datN 60 p = true ∧ datN 60 q = true then some (.fz (.bl (!eqP p q))) else none
theorem bin_eq {R : RE} : BinOk R opEq (rEqD R.K) := by
  intro e F H B p q x y r Q hB hp hq ho k
  unfold opEq at ho
  split at ho
  · rename_i c
    cases ho
    refine ⟨_, _, hp.dp hB.sub c.1, hq.dp hB.sub c.2, shaped_toD c.1, shaped_toD c.2, ?_⟩
    rw [eqv_toD 60 60 p q c.1 c.2]
    exact k _ H F (hB.push_fz (.bl _))
  · cases ho
theorem bin_ne {R : RE} : BinOk R opNe (rNeD R.K) := by
  intro e F H B p q x y r Q hB hp hq ho k
  unfold opNe at ho
  split at ho
  · rename_i c
    cases ho
    refine ⟨_, _, hp.dp hB.sub c.1, hq.dp hB.sub c.2, shaped_toD c.1, shaped_toD c.2, ?_⟩
    rw [eqv_toD 60 60 p q c.1 c.2]
    exact k _ H F (hB.push_fz (.bl _))
  · cases ho
end PL
set_option Elab.async false
set_option linter.all false
set_option maxRecDepth 100000
set_option maxHeartbeats 4000000
/-! PLd: comparisons, truth, indices, slices, displays, built-in functions. -/
namespace PL
open PySem PySem.Spec PyProof.Rows L2

def opLt : PV → PV → Option Vl := opCmp fun i j => decide (i < j)
def opLe : PV → PV → Option Vl := opCmp fun i j => decide (i ≤ j)
def opGt : PV → PV → Option Vl := opCmp fun i j => decide (j < i)
def opGe : PV → PV → Option Vl := opCmp fun i j => decide (j ≤ i)
theorem bin_lt {R : RE} : BinOk R opLt (rI0 fun i j => .bl (decide (i < j))) := bin_cmp
theorem bin_le {R : RE} : BinOk R opLe (rI0 fun i j => .bl (decide (i ≤ j))) := bin_cmp
theorem bin_gt {R : RE} : BinOk R opGt (rI0 fun i j => .bl (decide (j < i))) := bin_cmp
theorem bin_ge {R : RE} : BinOk R opGe (rI0 fun i j => .bl (decide (j ≤ i))) := bin_cmp
def isNon : PV → Bool
  | .non => true
  | _ => false
theorem Rp.isNon {R : RE} {F : Hp} {p : PV} {x : V} (h : Rp R F p x) : decide (x = .non) = isNon p := by
  cases h <;> simp [PL.isNon]
theorem Rq.isNon {R : RE} {F H : Hp} {p : PV} {x : V} (h : Rq R F H p x) (s : Sub F H) : decide (x = .non) = PL.isNon p := (h.rp s).isNon
def opIs : PV → PV → Option Vl := fun p q => match q with
  | .non => some (.fz (.bl (isNon p)))
  | _ => none
def opIsNot : PV → PV → Option Vl := fun p q => match q with
  | .non => some (.fz (.bl (!isNon p)))
  | _ => none
theorem bin_is {R : RE} : BinOk R opIs (fun x y H Q => y = .non ∧ Q (.bl (decide (x = .non))) H) := by
  intro e F H B p q x y r Q hB hp hq ho k
  unfold opIs at ho
  split at ho
  · cases ho
    exact ⟨hq.non, k _ H F (by rw [hp.isNon hB.sub]; exact hB.push_fz (.bl _))⟩
  · cases ho
theorem bin_isNot {R : RE} : BinOk R opIsNot (fun x y H Q => y = .non ∧ Q (.bl (!decide (x = .non))) H) := by
  intro e F H B p q x y r Q hB hp hq ho k
  unfold opIsNot at ho
  split at ho
  · cases ho
    exact ⟨hq.non, k _ H F (by rw [hp.isNon hB.sub]; exact hB.push_fz (.bl _))⟩
  · cases ho
/-- flat values -/
def flatP : PV → Bool
  | .non => true
  | .bl _ => true
  | .int _ => true
  | .str _ => true
  | _ => false
theorem flat_rp {R : RE} {F : Hp} {p : PV} {x : V} (h : Rp R F p x) (f : flatP p = true) : flatV x = true := by
  cases h <;> first | rfl | cases f
theorem eqV_rp {R : RE} {F : Hp} {p q : PV} {x y : V} (h : Rp R F p x) (k : Rp R F q y) (f : flatP p = true) (g : flatP q = true) : eqV x y = eqP p q := by
  cases h <;> first
    | exact absurd f Bool.false_ne_true
    | (cases k <;> first | exact absurd g Bool.false_ne_true | rfl | (simp only [eqV, eqP]))
theorem flat_rpl {R : RE} {F : Hp} : ∀ {ps : List PV} {xs : List V}, RpL R F ps xs → ps.all flatP = true → xs.all flatV = true
  | _, _, .nil, _ => rfl
  | _, _, .cons q r, h => by
    rw [List.all_cons, Bool.and_eq_true] at h ⊢
    exact ⟨flat_rp q h.1, flat_rpl r h.2⟩
theorem inV_rpl {R : RE} {F : Hp} {p : PV} {x : V} (hp : Rp R F p x) (f : flatP p = true) : ∀ {ps : List PV} {xs : List V}, RpL R F ps xs → ps.all flatP = true → (xs.any fun y => eqV y x) = ps.any fun z => eqP z p
  | _, _, .nil, _ => rfl
  | _, _, .cons q r, h => by
    rw [List.all_cons, Bool.and_eq_true] at h
    rw [List.any_cons, List.any_cons, eqV_rp q hp h.1 f, inV_rpl hp f r h.2]
theorem any_toDs (n : Nat) (p : PV) (hp : datN n p = true) : ∀ (m : Nat) (qs : List PV), datNs m qs = true → ((toDs qs).any fun z => PyData.eqv z (toD p)) = qs.any fun z => eqP z p
  | m, [], _ => rfl
  | m, q :: qs, h => by
    rw [datNs, Bool.and_eq_true] at h
    rw [toDs, List.any_cons, List.any_cons, eqv_toD m n q p h.1 hp, any_toDs n p hp m qs h.2]
def inP (p q : PV) : Option Bool := match q with
  | .lst qs => if datN 60 p = true ∧ datNs 59 qs = true then some (qs.any fun z => eqP z p) else none
  | .tup qs => if flatP p = true ∧ qs.all flatP = true then some (qs.any fun z => eqP z p) else none
  | _ => none
def opIn : PV → PV → Option Vl := fun p q => (inP p q).map fun b => .fz (.bl b)
def opNotIn : PV → PV → Option Vl := fun p q => (inP p q).map fun b => .fz (.bl (!b))
theorem bin_in {R : RE} : BinOk R opIn (fun x y H Q => rInD R.K x y H Q ∨ rIn R.K false x y H Q) := by
  intro e F H B p q x y r Q hB hp hq ho k
  unfold opIn at ho
  rw [Option.map_eq_some_iff] at ho
  obtain ⟨b, hb, rfl⟩ := ho
  unfold inP at hb
  split at hb
  · rename_i qs
    split at hb
    · rename_i c
      cases hb
      have d2 : datN 60 (.lst qs) = true := by rw [datN]; exact c.2
      refine .inl ⟨_, toDs qs, hp.dp hB.sub c.1, ?_, shaped_toD c.1, ?_, ?_⟩
      · have := hq.dp hB.sub d2
        rw [toD] at this
        exact this
      · have := shaped_toD d2
        rw [toD] at this
        exact this
      · rw [any_toDs 60 p c.1 59 qs c.2]
        exact k _ H F (hB.push_fz (.bl _))
    · cases hb
  · rename_i qs
    split at hb
    · rename_i c
      cases hb
      obtain ⟨a, vs, rfl, h1, r1⟩ := hq.tup hB.sub
      have hp' := hp.rp hB.sub
      have r1' := r1.mono hB.sub
      refine .inr ⟨a, vs, rfl, .inr h1, flat_rp hp' c.1, flat_rpl r1' c.2, ?_⟩
      have e1 : inV x vs = qs.any fun z => eqP z p := inV_rpl hp' c.1 r1' c.2
      rw [e1]
      exact k _ H F (hB.push_fz (.bl _))
    · cases hb
  · cases hb
theorem bin_notIn {R : RE} : BinOk R opNotIn (fun x y H Q => rNotInD R.K x y H Q ∨ rIn R.K true x y H Q) := by
  intro e F H B p q x y r Q hB hp hq ho k
  unfold opNotIn at ho
  rw [Option.map_eq_some_iff] at ho
  obtain ⟨b, hb, rfl⟩ := ho
  unfold inP at hb
  split at hb
  · rename_i qs
    split at hb
    · rename_i c
      cases hb
      have d2 : datN 60 (.lst qs) = true := by rw [datN]; exact c.2
      refine .inl ⟨_, toDs qs, hp.dp hB.sub c.1, ?_, shaped_toD c.1, ?_, ?_⟩
      · have := hq.dp hB.sub d2
        rw [toD] at this
        exact this
      · have := shaped_toD d2
        rw [toD] at this
        exact this
      · rw [any_toDs 60 p c.1 59 qs c.2]
        exact k _ H F (hB.push_fz (.bl _))
    · cases hb
  · rename_i qs
    split at hb
    · rename_i c
      cases hb
      obtain ⟨a, vs, rfl, h1, r1⟩ := hq.tup hB.sub
      have hp' := hp.rp hB.sub
      have r1' := r1.mono hB.sub
      refine .inr ⟨a, vs, rfl, .inr h1, flat_rp hp' c.1, flat_rpl r1' c.2, ?_⟩
      have e1 : inV x vs = qs.any fun z => eqP z p := inV_rpl hp' c.1 r1' c.2
      rw [e1]
      exact k _ H F (hB.push_fz (.bl _))
    · cases hb
  · cases hb
theorem opr_in {X : Cx} (hu : X.A.units + 65 < cLine) : OpR X (compareOp .In) (fun x y H Q => rInD X.K x y H Q ∨ rIn X.K false x y H Q) := (op_inD hu).or op_in_seq
theorem opr_notIn {X : Cx} (hu : X.A.units + 65 < cLine) : OpR X (compareOp .NotIn) (fun x y H Q => rNotInD X.K x y H Q ∨ rIn X.K true x y H Q) := (op_notInD hu).or op_notIn_seq
/-- -i -/
def eNeg (f : PF) : PF := fun ρ => (f ρ).bind fun x => match x.1 with
  | .fz (.int i) => some (.fz (.int (-i)), x.2)
  | _ => none

section
variable {X : Cx} {R : RE} {a b c : Expr} {fa fb fc : PF} {ga gb gc : PT'} {pos : Pos} {rest : List Expr}
theorem eNeg_some {f : PF} {ρ ρ' : List Sl} {r : Sl} (h : eNeg f ρ = some (r, ρ')) : ∃ i, f ρ = some (.fz (.int i), ρ') ∧ r = .fz (.int (-i)) := by
  unfold eNeg at h
  rw [Option.bind_eq_some_iff] at h
  obtain ⟨⟨r1, ρ1⟩, h1, h⟩ := h
  cases r1 with
  | fz p =>
    cases p with
    | int i => cases h; exact ⟨i, h1, rfl⟩
    | _ => cases h
  | _ => cases h
theorem ev_neg (h : Ev X R a fa) : Ev X R (.UnaryOp .USub a pos) (eNeg fa) := by
  refine ⟨fun ρ r ρ' q => ?_, pe_mono (pe_un un_neg h.pe) fun σ H Q q => ?_⟩
  · obtain ⟨i, h1, _⟩ := eNeg_some q
    exact h.len _ _ _ h1
  · obtain ⟨e, F, ρ, tm, r, ρ', hl, hB, hf, k⟩ := q
    obtain ⟨i, h1, rfl⟩ := eNeg_some hf
    refine ⟨e, F, ρ, tm, _, ρ', hl, hB, h1, fun x H' F' B' _ => ?_⟩
    have hx := (B'.rq_fz (x := x) (p := .int i) app_last).int
    exact ⟨i, hx, k _ H' F' (B'.pop.push_fz (.int _)) pk_fz⟩
/-! ### and, or, not -/
def tAndF (ga gb : PT') : PT' := fun ρ => (ga ρ).bind fun x => if x.1 = true then gb x.2 else some (false, x.2)
def tOrF (ga gb : PT') : PT' := fun ρ => (ga ρ).bind fun x => if x.1 = true then some (true, x.2) else gb x.2
def tNotF (ga : PT') : PT' := fun ρ => (ga ρ).map fun x => (!x.1, x.2)
structure Wv (X : Cx) (R : RE) (e : Expr) (f : PT') : Prop where
  len : ∀ ρ r ρ', f ρ = some (r, ρ') → ρ'.length = ρ.length
  pw : PW X e (TTv R f)
theorem Wv.tv {e : Expr} {f : PT'} (h : Wv X R e f) : Tv X R e f := ⟨h.len, h.pw.pt⟩
theorem wv_and1 (h : Tv X R a ga) : Wv X R (.BoolOp .And [a] pos) ga := ⟨h.len, pw_and1 h.pt⟩
theorem wv_or1 (h : Tv X R a ga) : Wv X R (.BoolOp .Or [a] pos) ga := ⟨h.len, pw_or1 h.pt⟩
theorem tAndF_len (la : ∀ ρ r ρ', ga ρ = some (r, ρ') → ρ'.length = ρ.length) (lb : ∀ ρ r ρ', gb ρ = some (r, ρ') → ρ'.length = ρ.length) : ∀ ρ r ρ', tAndF ga gb ρ = some (r, ρ') → ρ'.length = ρ.length := fun ρ r ρ' h => by
  unfold tAndF at h
  rw [Option.bind_eq_some_iff] at h
  obtain ⟨⟨c, ρ1⟩, h1, h⟩ := h
  cases c with
  | true => exact (lb _ _ _ h).trans (la _ _ _ h1)
  | false => cases h; exact la _ _ _ h1
theorem tOrF_len (la : ∀ ρ r ρ', ga ρ = some (r, ρ') → ρ'.length = ρ.length) (lb : ∀ ρ r ρ', gb ρ = some (r, ρ') → ρ'.length = ρ.length) : ∀ ρ r ρ', tOrF ga gb ρ = some (r, ρ') → ρ'.length = ρ.length := fun ρ r ρ' h => by
  unfold tOrF at h
  rw [Option.bind_eq_some_iff] at h
  obtain ⟨⟨c, ρ1⟩, h1, h⟩ := h
  cases c with
  | false => exact (lb _ _ _ h).trans (la _ _ _ h1)
  | true => cases h; exact la _ _ _ h1
theorem wv_and (h : Tv X R a ga) (hb : Wv X R (.BoolOp .And (b :: rest) pos) gb) : Wv X R (.BoolOp .And (a :: b :: rest) pos) (tAndF ga gb) := by
  refine ⟨tAndF_len h.len hb.len, pw_mono (pw_and h.pt hb.pw) fun σ H Q q => ?_⟩
  obtain ⟨e, F, ρ, tm, r, ρ', hl, hB, hf, k⟩ := q
  unfold tAndF at hf
  rw [Option.bind_eq_some_iff] at hf
  obtain ⟨⟨c, ρ1⟩, h1, hf⟩ := hf
  refine ⟨e, F, ρ, tm, c, ρ1, hl, hB, h1, fun H1 F1 B1 => ?_⟩
  cases c with
  | true => rw [if_pos rfl]; exact ⟨e, F1, ρ1, tm, r, ρ', (h.len _ _ _ h1).trans hl, B1, hf, k⟩
  | false => rw [if_neg Bool.false_ne_true]; cases hf; exact k H1 F1 B1
theorem wv_or (h : Tv X R a ga) (hb : Wv X R (.BoolOp .Or (b :: rest) pos) gb) : Wv X R (.BoolOp .Or (a :: b :: rest) pos) (tOrF ga gb) := by
  refine ⟨tOrF_len h.len hb.len, pw_mono (pw_or h.pt hb.pw) fun σ H Q q => ?_⟩
  obtain ⟨e, F, ρ, tm, r, ρ', hl, hB, hf, k⟩ := q
  unfold tOrF at hf
  rw [Option.bind_eq_some_iff] at hf
  obtain ⟨⟨c, ρ1⟩, h1, hf⟩ := hf
  refine ⟨e, F, ρ, tm, c, ρ1, hl, hB, h1, fun H1 F1 B1 => ?_⟩
  cases c with
  | false => rw [if_neg Bool.false_ne_true]; exact ⟨e, F1, ρ1, tm, r, ρ', (h.len _ _ _ h1).trans hl, B1, hf, k⟩
  | true => rw [if_pos rfl]; cases hf; exact k H1 F1 B1
theorem tNotF_some {f : PT'} {ρ ρ' : List Sl} {r : Bool} (h : tNotF f ρ = some (r, ρ')) : f ρ = some (!r, ρ') := by
  unfold tNotF at h
  rw [Option.map_eq_some_iff] at h
  obtain ⟨⟨c, ρ1⟩, h1, h⟩ := h
  cases h
  rw [Bool.not_not]; exact h1
theorem tv_not (h : Tv X R a ga) : Tv X R (.UnaryOp .Not a pos) (tNotF ga) := by
  refine ⟨fun ρ r ρ' q => h.len _ _ _ (tNotF_some q), pt_mono (pt_not h.pt) fun σ H Q q => ?_⟩
  obtain ⟨e, F, ρ, tm, r, ρ', hl, hB, hf, k⟩ := q
  exact ⟨e, F, ρ, tm, !r, ρ', hl, hB, tNotF_some hf, fun H1 F1 B1 => by show Q (!(!r)) H1; rw [Bool.not_not]; exact k H1 F1 B1⟩
/-- .. as values -/
def vOf (g : PT') : PF := fun ρ => (g ρ).map fun x => (.fz (.bl x.1), x.2)
/-- and, or as values: all but the last are truth values -/
def eAndF (fa fb : PF) : PF := fun ρ => (tOf fa ρ).bind fun x => if x.1 = true then fb x.2 else some (.fz (.bl false), x.2)
def eOrF (fa fb : PF) : PF := fun ρ => (tOf fa ρ).bind fun x => if x.1 = true then some (.fz (.bl true), x.2) else fb x.2
theorem tEv_bl {f : PF} {σ : L2.St} {H : Hp} {Q : Bool → Hp → Prop} (h : TTv R (tOf f) σ H Q) : TEv R f σ H fun x H' => ∃ k, x = .bl k ∧ Q k H' := tTest_of σ H Q h
theorem ev_one {op : BoolOp} (h : Ev X R a fa) : Ev X R (.BoolOp op [a] pos) fa := ⟨h.len, pe_one h.pe⟩
theorem ev_and (h : Ev X R a fa) (hb : Ev X R (.BoolOp .And (b :: rest) pos) fb) : Ev X R (.BoolOp .And (a :: b :: rest) pos) (eAndF fa fb) := by
  refine ⟨fun ρ r ρ' q => ?_, pe_mono (pe_and h.pe hb.pe) fun σ H Q q => ?_⟩
  · unfold eAndF at q
    rw [Option.bind_eq_some_iff] at q
    obtain ⟨⟨c, ρ1⟩, h1, q⟩ := q
    have l1 := tOf_len h.len _ _ _ h1
    cases c with
    | true => exact (hb.len _ _ _ q).trans l1
    | false => cases q; exact l1
  · obtain ⟨e, F, ρ, tm, r, ρ', hl, hB, hf, k⟩ := q
    unfold eAndF at hf
    rw [Option.bind_eq_some_iff] at hf
    obtain ⟨⟨c, ρ1⟩, h1, hf⟩ := hf
    have l1 := tOf_len h.len _ _ _ h1
    refine tEv_bl ⟨e, F, ρ, tm, c, ρ1, hl, hB, h1, fun H1 F1 B1 => ?_⟩
    cases c with
    | true => rw [if_pos rfl]; exact ⟨e, F1, ρ1, tm, r, ρ', l1.trans hl, B1, hf, k⟩
    | false => rw [if_neg Bool.false_ne_true]; cases hf; exact k _ H1 F1 (B1.push_fz (.bl _)) pk_fz
theorem ev_or (h : Ev X R a fa) (hb : Ev X R (.BoolOp .Or (b :: rest) pos) fb) : Ev X R (.BoolOp .Or (a :: b :: rest) pos) (eOrF fa fb) := by
  refine ⟨fun ρ r ρ' q => ?_, pe_mono (pe_or h.pe hb.pe) fun σ H Q q => ?_⟩
  · unfold eOrF at q
    rw [Option.bind_eq_some_iff] at q
    obtain ⟨⟨c, ρ1⟩, h1, q⟩ := q
    have l1 := tOf_len h.len _ _ _ h1
    cases c with
    | false => exact (hb.len _ _ _ q).trans l1
    | true => cases q; exact l1
  · obtain ⟨e, F, ρ, tm, r, ρ', hl, hB, hf, k⟩ := q
    unfold eOrF at hf
    rw [Option.bind_eq_some_iff] at hf
    obtain ⟨⟨c, ρ1⟩, h1, hf⟩ := hf
    have l1 := tOf_len h.len _ _ _ h1
    refine tEv_bl ⟨e, F, ρ, tm, c, ρ1, hl, hB, h1, fun H1 F1 B1 => ?_⟩
    cases c with
    | false => rw [if_neg Bool.false_ne_true]; exact ⟨e, F1, ρ1, tm, r, ρ', l1.trans hl, B1, hf, k⟩
    | true => rw [if_pos rfl]; cases hf; exact k _ H1 F1 (B1.push_fz (.bl _)) pk_fz
def eNotF (fa : PF) : PF := fun ρ => (tOf fa ρ).map fun x => (.fz (.bl (!x.1)), x.2)
theorem ev_not (h : Ev X R a fa) : Ev X R (.UnaryOp .Not a pos) (eNotF fa) := by
  refine ⟨fun ρ r ρ' q => ?_, pe_mono (pe_not h.pe) fun σ H Q q => ?_⟩
  · unfold eNotF at q
    rw [Option.map_eq_some_iff] at q
    obtain ⟨⟨c, ρ1⟩, h1, q⟩ := q
    cases q
    exact tOf_len h.len _ _ _ h1
  · obtain ⟨e, F, ρ, tm, r, ρ', hl, hB, hf, k⟩ := q
    unfold eNotF at hf
    rw [Option.map_eq_some_iff] at hf
    obtain ⟨⟨c, ρ1⟩, h1, hf⟩ := hf
    cases hf
    exact tEv_bl ⟨e, F, ρ, tm, c, ρ1, hl, hB, h1, fun H1 F1 B1 => k _ H1 F1 (B1.push_fz (.bl _)) pk_fz⟩
/-! ### a if t else b -/
def eIf (g : PT') (fa fb : PF) : PF := fun ρ => (g ρ).bind fun x => if x.1 = true then fa x.2 else fb x.2
theorem ev_if (h : Tv X R c gc) (ha : Ev X R a fa) (hb : Ev X R b fb) : Ev X R (.IfExp c a b pos) (eIf gc fa fb) := by
  refine ⟨fun ρ r ρ' q => ?_, pe_mono (pe_ifExp h.pt ha.pe hb.pe) fun σ H Q q => ?_⟩
  · unfold eIf at q
    rw [Option.bind_eq_some_iff] at q
    obtain ⟨⟨c, ρ1⟩, h1, q⟩ := q
    cases c with
    | true => exact (ha.len _ _ _ q).trans (h.len _ _ _ h1)
    | false => exact (hb.len _ _ _ q).trans (h.len _ _ _ h1)
  · obtain ⟨e, F, ρ, tm, r, ρ', hl, hB, hf, k⟩ := q
    unfold eIf at hf
    rw [Option.bind_eq_some_iff] at hf
    obtain ⟨⟨c, ρ1⟩, h1, hf⟩ := hf
    refine ⟨e, F, ρ, tm, c, ρ1, hl, hB, h1, fun H1 F1 B1 => ?_⟩
    cases c with
    | true => rw [if_pos rfl]; exact ⟨e, F1, ρ1, tm, r, ρ', (h.len _ _ _ h1).trans hl, B1, hf, k⟩
    | false => rw [if_neg Bool.false_ne_true]; exact ⟨e, F1, ρ1, tm, r, ρ', (h.len _ _ _ h1).trans hl, B1, hf, k⟩
/-! ### a chain of two comparisons -/
def eChain (op op' : PV → PV → Option Vl) (fa fb fc : PF) : PF := fun ρ => (fa ρ).bind fun x => (fb x.2).bind fun y => (cont y.2 x.1).bind fun p => (cont y.2 y.1).bind fun q => match op p q with
  | some (.fz (.bl true)) => (fc y.2).bind fun z => (cont z.2 y.1).bind fun q' => (cont z.2 z.1).bind fun r => (op' q' r).map fun v => (v.sl, z.2)
  | some (.fz (.bl false)) => some (.fz (.bl false), y.2)
  | _ => none
theorem chain_len {op op' : PV → PV → Option Vl} (la : ∀ ρ r ρ', fa ρ = some (r, ρ') → ρ'.length = ρ.length) (lb : ∀ ρ r ρ', fb ρ = some (r, ρ') → ρ'.length = ρ.length) (lc : ∀ ρ r ρ', fc ρ = some (r, ρ') → ρ'.length = ρ.length) :
    ∀ ρ r ρ', eChain op op' fa fb fc ρ = some (r, ρ') → ρ'.length = ρ.length := fun ρ r ρ' h => by
  unfold eChain at h
  rw [Option.bind_eq_some_iff] at h
  obtain ⟨⟨r1, ρ1⟩, h1, h⟩ := h
  rw [Option.bind_eq_some_iff] at h
  obtain ⟨⟨r2, ρ2⟩, h2, h⟩ := h
  rw [Option.bind_eq_some_iff] at h
  obtain ⟨p, h3, h⟩ := h
  rw [Option.bind_eq_some_iff] at h
  obtain ⟨q, h4, h⟩ := h
  have l := (lb _ _ _ h2).trans (la _ _ _ h1)
  split at h
  · rw [Option.bind_eq_some_iff] at h
    obtain ⟨⟨r3, ρ3⟩, h5, h⟩ := h
    rw [Option.bind_eq_some_iff] at h
    obtain ⟨q', h6, h⟩ := h
    rw [Option.bind_eq_some_iff] at h
    obtain ⟨r', h7, h⟩ := h
    rw [Option.map_eq_some_iff] at h
    obtain ⟨v, _, h⟩ := h
    cases h
    exact (lc _ _ _ h5).trans l
  · cases h; exact l
  · cases h
theorem tChain_of {op op' : PV → PV → Option Vl} {rd rd' : R2} (ho : BinOk R op rd) (ho' : BinOk R op' rd') (la : ∀ ρ r ρ', fa ρ = some (r, ρ') → ρ'.length = ρ.length) (lb : ∀ ρ r ρ', fb ρ = some (r, ρ') → ρ'.length = ρ.length) (lc : ∀ ρ r ρ', fc ρ = some (r, ρ') → ρ'.length = ρ.length)
    (σ : L2.St) (H : Hp) (Q : VK) (h : TEv R (eChain op op' fa fb fc) σ H Q) : tChain rd rd' (TEv R fa) (TEv R fb) (TEv R fc) σ H Q := by
  obtain ⟨e, F, ρ, tm, r, ρ', hl, hB, hf, k⟩ := h
  unfold eChain at hf
  rw [Option.bind_eq_some_iff] at hf
  obtain ⟨⟨r1, ρ1⟩, h1, hf⟩ := hf
  rw [Option.bind_eq_some_iff] at hf
  obtain ⟨⟨r2, ρ2⟩, h2, hf⟩ := hf
  rw [Option.bind_eq_some_iff] at hf
  obtain ⟨p, h3, hf⟩ := hf
  rw [Option.bind_eq_some_iff] at hf
  obtain ⟨q, h4, hf⟩ := hf
  have l1 := la _ _ _ h1
  have l2 := lb _ _ _ h2
  dsimp only at h2 h3 h4 hf
  refine ⟨e, F, ρ, tm, r1, ρ1, hl, hB, h1, fun x1 H1 F1 B1 k1 => ?_⟩
  rw [List.append_assoc] at B1
  refine ⟨e, F1, ρ1, tm ++ [(tmpOf r1, some x1)], r2, ρ2, l1.trans hl, B1, h2, fun x2 H2 F2 B2 k2 => ?_⟩
  have g1 : (ρ2.zip σ ++ (tm ++ [(tmpOf r1, some x1)]) ++ [(tmpOf r2, some x2)])[(ρ2.zip σ ++ tm).length]? = some (tmpOf r1, some x1) := by
    rw [← List.append_assoc (ρ2.zip σ), List.append_assoc]; exact app_mid
  have g2 : (ρ2.zip σ ++ (tm ++ [(tmpOf r1, some x1)]) ++ [(tmpOf r2, some x2)])[(ρ2.zip σ ++ (tm ++ [(tmpOf r1, some x1)])).length]? = some (tmpOf r2, some x2) := app_last
  have q1 : Rq R F2 H2 p x1 := by
    have B2' := B2
    rw [List.append_assoc] at B2' g1
    exact B2'.rq g1 k1 h3
  have q2 : Rq R F2 H2 q x2 := by
    have B2' := B2
    rw [List.append_assoc] at B2' g2
    exact B2'.rq g2 k2 h4
  -- the second operand stays, the first goes
  have B3 : Bag R e F2 H2 (ρ2.zip σ ++ (tm ++ [(.un, some x1)]) ++ [(tmpOf r2, some x2)]) := by
    have := B2.put g1 (t := .un) trivial (fun _ z => nomatch z)
    rw [List.set_append_left _ _ (by simp), ← List.append_assoc (ρ2.zip σ), List.set_append_right _ _ (Nat.le_refl _), Nat.sub_self] at this
    rw [← List.append_assoc (ρ2.zip σ)]
    exact this
  cases ho1 : op p q with
  | none => rw [ho1] at hf; cases hf
  | some w =>
    rw [ho1] at hf
    refine ho e F2 H2 _ p q x1 x2 w _ B3 q1 q2 ho1 fun z H3 F3 B4 => ?_
    cases w with
    | own _ => cases hf
    | fz w =>
      cases w with
      | bl d =>
        have ez := (B4.rq_fz (x := z) (p := .bl d) app_last).bl
        refine ⟨d, ez, ?_⟩
        have B5 := B4.pop
        cases d with
        | false =>
          rw [if_neg Bool.false_ne_true]
          cases hf
          have B6 := B5.pop
          rw [← List.append_assoc] at B6
          exact k _ H3 F3 (B6.pop.push_fz (.bl _)) pk_fz
        | true =>
          rw [if_pos rfl]
          dsimp only at hf
          rw [Option.bind_eq_some_iff] at hf
          obtain ⟨⟨r3, ρ3⟩, h5, hf⟩ := hf
          rw [Option.bind_eq_some_iff] at hf
          obtain ⟨q', h6, hf⟩ := hf
          rw [Option.bind_eq_some_iff] at hf
          obtain ⟨p3, h7, hf⟩ := hf
          rw [Option.map_eq_some_iff] at hf
          obtain ⟨v, h8, hf⟩ := hf
          cases hf
          rw [List.append_assoc] at B5
          refine ⟨e, F3, ρ2, _, r3, ρ3, l2.trans (l1.trans hl), B5, h5, fun x3 H4 F4 B6 k3 => ?_⟩
          have l3 := lc _ _ _ h5
          have g3 : (ρ3.zip σ ++ (tm ++ [(Sl.un, some x1)] ++ [(tmpOf r2, some x2)]) ++ [(tmpOf r3, some x3)])[(ρ3.zip σ ++ (tm ++ [(Sl.un, some x1)])).length]? = some (tmpOf r2, some x2) := by
            rw [← List.append_assoc (ρ3.zip σ), List.append_assoc]; exact app_mid
          have g4 : (ρ3.zip σ ++ (tm ++ [(Sl.un, some x1)] ++ [(tmpOf r2, some x2)]) ++ [(tmpOf r3, some x3)])[(ρ3.zip σ ++ (tm ++ [(Sl.un, some x1)] ++ [(tmpOf r2, some x2)])).length]? = some (tmpOf r3, some x3) := app_last
          have q3 : Rq R F4 H4 q' x2 := by
            have B6' := B6
            rw [List.append_assoc] at B6' g3
            exact B6'.rq g3 k2 h6
          have q4 : Rq R F4 H4 p3 x3 := by
            have B6' := B6
            rw [List.append_assoc] at B6' g4
            exact B6'.rq g4 k3 h7
          have B7 : Bag R e F4 H4 (ρ3.zip σ ++ tm) := by
            have B8 := B6.pop
            rw [← List.append_assoc] at B8
            have B9 := B8.pop
            rw [← List.append_assoc] at B9
            exact B9.pop
          exact ho' e F4 H4 _ q' p3 x2 x3 v Q B7 q3 q4 h8 fun z H' F' B' => k z H' F' (by rw [tmp_sl]; exact B') (sl_pk v σ z)
      | _ => cases hf
theorem ev_chain {o o' : CmpOp} {op op' : PV → PV → Option Vl} {rd rd' : R2} (hr : OpR X (compareOp o) rd) (hr' : OpR X (compareOp o') rd') (ho : BinOk R op rd) (ho' : BinOk R op' rd') (ha : Ev X R a fa) (hb : Ev X R b fb) (hc : Ev X R c fc)
    (hm : lastMarks [o, o'] [b, c] = false := by with_unfolding_all rfl) : Ev X R (.Compare a [o, o'] [b, c] pos) (eChain op op' fa fb fc) :=
  ⟨chain_len ha.len hb.len hc.len, pe_mono (pe_chain hr hr' ha.pe hb.pe hc.pe hm) (tChain_of ho ho' ha.len hb.len hc.len)⟩
theorem tv_chain {o o' : CmpOp} {op op' : PV → PV → Option Vl} {rd rd' : R2} (hr : OpR X (compareOp o) rd) (hr' : OpR X (compareOp o') rd') (ho : BinOk R op rd) (ho' : BinOk R op' rd') (ha : Ev X R a fa) (hb : Ev X R b fb) (hc : Ev X R c fc)
    (hm : lastMarks [o, o'] [b, c] = false := by with_unfolding_all rfl) : Tv X R (.Compare a [o, o'] [b, c] pos) (tOf (eChain op op' fa fb fc)) :=
  ⟨tOf_len (chain_len ha.len hb.len hc.len), pt_mono (pt_chain hr hr' ha.pe hb.pe hc.pe hm) fun σ H Q q => tChain_of ho ho' ha.len hb.len hc.len σ H _ (tTest_of σ H Q q)⟩
/-! ### indices -/
def opIx : PV → PV → Option Vl
  | .lst xs, .int i => (atI xs i).map .fz
  | .tup xs, .int i => (atI xs i).map .fz
  | .str z, .int i => if z.length ≤ lineN then (atI z.cps.toList i).map fun c => .fz (.str ⟨#[c]⟩) else none
  | _, _ => none
theorem atI_rp {F : Hp} {ps : List PV} {vs : List V} {i : Int} {p : PV} (h : RpL R F ps vs) (e : atI ps i = some p) : ∃ v, atI vs i = some v ∧ Rp R F p v := by
  unfold atI at e ⊢
  rw [← h.length]
  rw [Option.bind_eq_some_iff] at e
  obtain ⟨j, h1, h2⟩ := e
  obtain ⟨v, h3, h4⟩ := h.get' h2
  exact ⟨v, by rw [h1]; exact h3, h4⟩
theorem bin_ix : BinOk R opIx (rIx R.K) := by
  intro e F H B p q x y r Q hB hp hq ho k
  unfold opIx at ho
  split at ho
  · rename_i xs i
    rw [Option.map_eq_some_iff] at ho
    obtain ⟨z, h1, rfl⟩ := ho
    obtain ⟨a, vs, rfl, h2, r1⟩ := hp.lst hB.sub
    obtain ⟨v, h3, h4⟩ := atI_rp r1 h1
    exact .inl ⟨a, vs, i, v, rfl, hq.int, SqL.of h2, h3, k _ H F (hB.push_fz h4)⟩
  · rename_i xs i
    rw [Option.map_eq_some_iff] at ho
    obtain ⟨z, h1, rfl⟩ := ho
    obtain ⟨a, vs, rfl, h2, r1⟩ := hp.tup hB.sub
    obtain ⟨v, h3, h4⟩ := atI_rp r1 h1
    exact .inr (.inl ⟨a, vs, i, v, rfl, hq.int, h2, h3, k _ H F (hB.push_fz h4)⟩)
  · rename_i z i
    split at ho
    · rename_i c
      rw [Option.map_eq_some_iff] at ho
      obtain ⟨w, h1, rfl⟩ := ho
      exact .inr (.inr ⟨z, i, w, hp.str, hq.int, by rw [← lineN_eq]; exact c, h1, k _ H F (hB.push_fz (.str _))⟩)
    · cases ho
  · cases ho
theorem ev_ix (hK : R.K = X.K) (ha : Ev X R a fa) (hb : Ev X R b fb) (hs : PlainIx b := by intro _ _; rfl) : Ev X R (.Subscript a b pos) (eBin opIx fa fb) :=
  ⟨bin_len ha.len hb.len, pe_mono (pe_ix ix_seq ha.pe hb.pe hs) (by rw [← hK]; exact tOp_of bin_ix ha.len hb.len)⟩
end

/-! ### slices -/
abbrev PFo := List Sl → Option (Option Int × List Sl)
def TOv (R : RE) (f : PFo) : TO := fun σ H Q => ∃ (e : En) (F : Hp) (ρ : List Sl) (tm : Bg) (b : Option Int) (ρ' : List Sl), ρ.length = σ.length ∧ Bag R e F H (ρ.zip σ ++ tm) ∧ f ρ = some (b, ρ') ∧
  ∀ H' F', Bag R e F' H' (ρ'.zip σ ++ tm) → Q b H'
structure Ov (X : Cx) (R : RE) (e : Option Expr) (f : PFo) : Prop where
  len : ∀ ρ r ρ', f ρ = some (r, ρ') → ρ'.length = ρ.length
  po : PO X e (TOv R f)
def oNone : PFo := fun ρ => some (none, ρ)
def oSome (f : PF) : PFo := fun ρ => (f ρ).bind fun x => match x.1 with
  | .fz (.int i) => some (some i, x.2)
  | _ => none
section
variable {X : Cx} {R : RE} {a b c : Expr} {fa fb fc : PF} {pos p2 : Pos}
theorem po_mono {o : Option Expr} {t t' : TO} (h : PO X o t) (m : ∀ σ H Q, t' σ H Q → t σ H Q) : PO X o t' := ⟨fun pins s σ H Q I q => h.run pins s σ H Q I (m σ H Q q)⟩
theorem ov_none : Ov X R none oNone := ⟨fun ρ r ρ' h => by cases h; rfl, po_mono po_none fun σ H Q h => by
  obtain ⟨e, F, ρ, tm, r', ρ', hl, hB, hf, k⟩ := h
  cases hf
  exact k H F hB⟩
theorem oSome_some {f : PF} {ρ ρ' : List Sl} {r : Option Int} (h : oSome f ρ = some (r, ρ')) : ∃ i, f ρ = some (.fz (.int i), ρ') ∧ r = some i := by
  unfold oSome at h
  rw [Option.bind_eq_some_iff] at h
  obtain ⟨⟨r1, ρ1⟩, h1, h⟩ := h
  cases r1 with
  | fz p =>
    cases p with
    | int i => cases h; exact ⟨i, h1, rfl⟩
    | _ => cases h
  | _ => cases h
theorem ov_some (h : Ev X R a fa) : Ov X R (some a) (oSome fa) := by
  refine ⟨fun ρ r ρ' q => ?_, po_mono (po_some h.pe) fun σ H Q q => ?_⟩
  · obtain ⟨i, h1, _⟩ := oSome_some q
    exact h.len _ _ _ h1
  · obtain ⟨e, F, ρ, tm, r, ρ', hl, hB, hf, k⟩ := q
    obtain ⟨i, h1, rfl⟩ := oSome_some hf
    refine ⟨e, F, ρ, tm, _, ρ', hl, hB, h1, fun x H' F' B' _ => ⟨i, (B'.rq_fz (x := x) (p := .int i) app_last).int, k H' F' B'.pop⟩⟩
def cutP {α : Type} (xs : List α) (lo hi : Option Int) : List α := (xs.drop (HT.sIx xs.length 0 lo)).take (HT.sIx xs.length xs.length hi - HT.sIx xs.length 0 lo)
theorem cutP_rp {F : Hp} {ps : List PV} {vs : List V} (h : RpL R F ps vs) (lo hi : Option Int) : RpL R F (cutP ps lo hi) (cutV vs lo hi) := by
  unfold cutP cutV
  rw [h.length]
  exact (h.drop _).take _
def opSl (p : PV) (lo hi : Option Int) : Option Vl := match p with
  | .lst xs => some (.own (cutP xs lo hi))
  | .scr xs => some (.own (cutP xs lo hi))
  | .tup xs => some (.fz (.tup (cutP xs lo hi)))
  | .str z => if z.length ≤ lineN then some (.fz (.str (cutS z lo hi))) else none
  | _ => none
def eSl (fa : PF) (fl fh : PFo) : PF := fun ρ => (fa ρ).bind fun x => (fl x.2).bind fun l => (fh l.2).bind fun h => (cont h.2 x.1).bind fun p => (opSl p l.1 h.1).map fun r => (r.sl, h.2)
def rSl (K : PySem.W.Frag) : V → Option Int → Option Int → Hp → VK → Prop := fun x lo hi H Q => rSlL K x lo hi H Q ∨ (rSlA K x lo hi H Q ∨ rSlS x lo hi H Q)
theorem cut_all {α : Type} {xs : List α} {lo hi : Option Int} (h1 : HT.sIx xs.length 0 lo = 0) (h2 : HT.sIx xs.length xs.length hi = xs.length) : cutP xs lo hi = xs := by
  unfold cutP
  rw [h1, h2, List.drop_zero, Nat.sub_zero, List.take_length]
theorem sl_ok {e : En} {F H : Hp} {B : Bg} {p : PV} {x : V} {lo hi : Option Int} {v : Vl} {Q : VK} (hB : Bag R e F H B) (hp : Rq R F H p x) (ho : opSl p lo hi = some v)
    (k : ∀ z H' F', Bag R e F' H' (B ++ [(v.sl, some z)]) → Q z H') : rSl R.K x lo hi H Q := by
  unfold opSl at ho
  split at ho
  · cases ho
    obtain ⟨a, vs, rfl, h1, r1⟩ := hp.lst hB.sub
    exact .inl ⟨a, vs, rfl, SqL.of h1, fun p n => k _ _ _ (hB.new_lst n (cutP_rp r1 lo hi))⟩
  · cases ho
    obtain ⟨a, vs, rfl, h1, r1⟩ := hp.scr hB.sub
    exact .inl ⟨a, vs, rfl, h1, fun p n => k _ _ _ (hB.new_lst n (cutP_rp r1 lo hi))⟩
  · rename_i xs
    cases ho
    have hp' := hp
    obtain ⟨a, vs, rfl, h1, r1⟩ := hp.tup hB.sub
    refine .inr (.inl ⟨a, vs, rfl, h1, fun z => ?_, fun z p n => k _ _ _ (hB.new_tup n (cutP_rp r1 lo hi))⟩)
    have hp2 : Rp R F (.tup xs) (.ref a) := by
      rcases hp' with h | ⟨_, _, _, _, z, _⟩
      · exact h
      · cases z
    rw [← r1.length] at z
    refine k _ H F ?_
    show Bag R e F H (B ++ [(Sl.fz (.tup (cutP xs lo hi)), _)])
    rw [cut_all z.1 z.2]
    exact hB.push_fz hp2
  · rename_i z
    split at ho
    · rename_i c
      cases ho
      exact .inr (.inr ⟨z, hp.str, by rw [← lineN_eq]; exact c, k _ H F (hB.push_fz (.str _))⟩)
    · cases ho
  · cases ho
theorem ev_sl (hK : R.K = X.K) {lo hi : Option Expr} {fl fh : PFo} (ha : Ev X R a fa) (hl : Ov X R lo fl) (hh : Ov X R hi fh) : Ev X R (.Subscript a (.Slice lo hi none p2) pos) (eSl fa fl fh) := by
  have key : ∀ {ρ ρ' : List Sl} {r : Sl}, eSl fa fl fh ρ = some (r, ρ') → ∃ r1 ρ1 l ρ2 h p v, fa ρ = some (r1, ρ1) ∧ fl ρ1 = some (l, ρ2) ∧ fh ρ2 = some (h, ρ') ∧ cont ρ' r1 = some p ∧ opSl p l h = some v ∧ r = v.sl := by
    intro ρ ρ' r q
    unfold eSl at q
    rw [Option.bind_eq_some_iff] at q
    obtain ⟨⟨r1, ρ1⟩, h1, q⟩ := q
    rw [Option.bind_eq_some_iff] at q
    obtain ⟨⟨l, ρ2⟩, h2, q⟩ := q
    rw [Option.bind_eq_some_iff] at q
    obtain ⟨⟨h, ρ3⟩, h3, q⟩ := q
    rw [Option.bind_eq_some_iff] at q
    obtain ⟨p, h4, q⟩ := q
    rw [Option.map_eq_some_iff] at q
    obtain ⟨v, h5, q⟩ := q
    cases q
    exact ⟨r1, ρ1, l, ρ2, h, p, v, h1, h2, h3, h4, h5, rfl⟩
  refine ⟨fun ρ r ρ' q => ?_, pe_mono (pe_slice (sl_list.or (sl_tupA.or sl_str)) ha.pe hl.po hh.po) fun σ H Q q => ?_⟩
  · obtain ⟨r1, ρ1, l, ρ2, h, p, v, h1, h2, h3, _⟩ := key q
    exact (hh.len _ _ _ h3).trans ((hl.len _ _ _ h2).trans (ha.len _ _ _ h1))
  · obtain ⟨e, F, ρ, tm, r, ρ', hl', hB, hf, k⟩ := q
    obtain ⟨r1, ρ1, l, ρ2, h, p, v, h1, h2, h3, h4, h5, rfl⟩ := key hf
    have l1 := ha.len _ _ _ h1
    have l2 := hl.len _ _ _ h2
    refine ⟨e, F, ρ, tm, r1, ρ1, hl', hB, h1, fun x1 H1 F1 B1 k1 => ?_⟩
    rw [List.append_assoc] at B1
    refine ⟨e, F1, ρ1, _, l, ρ2, l1.trans hl', B1, h2, fun H2 F2 B2 => ?_⟩
    refine ⟨e, F2, ρ2, _, h, ρ', l2.trans (l1.trans hl'), B2, h3, fun H3 F3 B3 => ?_⟩
    have g1 : (ρ'.zip σ ++ (tm ++ [(tmpOf r1, some x1)]))[(ρ'.zip σ ++ tm).length]? = some (tmpOf r1, some x1) := by
      rw [← List.append_assoc]; exact app_last
    have q1 := B3.rq g1 k1 h4
    rw [← List.append_assoc] at B3
    have := sl_ok B3.pop q1 h5 fun z H' F' B' => k z H' F' (by rw [tmp_sl]; exact B') (sl_pk v σ z)
    unfold rSl at this
    rw [hK] at this
    exact this
end
end PL
set_option Elab.async false
set_option linter.all false
set_option maxRecDepth 100000
set_option maxHeartbeats 4000000
/-! PLe: argument lists, displays, built-in functions, isinstance. -/
namespace PL
open PySem PySem.Spec PyProof.Rows L2

def aNil : PFs := fun ρ => some ([], ρ)
def aCons (f : PF) (fs : PFs) : PFs := fun ρ => (f ρ).bind fun x => (fs x.2).map fun y => (x.1 :: y.1, y.2)
/-- contents as values that stay (own lists are frozen) -/
def valOf : Sl → Option PV
  | .fz p => some p
  | .own xs => some (.lst xs)
  | _ => none
def valsOf : List Sl → Option (List PV)
  | [] => some []
  | s :: r => (valOf s).bind fun p => (valsOf r).map fun ps => p :: ps

section
variable {X : Cx} {R : RE} {a b : Expr} {es : List Expr} {fa fb : PF} {fs : PFs} {pos : Pos}
theorem av_nil : Av X R [] aNil := ⟨fun ρ r ρ' h => by cases h; rfl, fun ρ r ρ' h => by cases h; rfl, pa_mono pa_nil fun σ H Q h => by
  obtain ⟨e, F, ρ, tm, rs, ρ', hl, hB, hf, k⟩ := h
  cases hf
  exact k [] H F (by simpa using hB) .nil⟩
theorem aCons_some {ρ ρ' : List Sl} {rs : List Sl} (h : aCons fa fs ρ = some (rs, ρ')) : ∃ r ρ1 r', fa ρ = some (r, ρ1) ∧ fs ρ1 = some (r', ρ') ∧ rs = r :: r' := by
  unfold aCons at h
  rw [Option.bind_eq_some_iff] at h
  obtain ⟨⟨r, ρ1⟩, h1, h⟩ := h
  rw [Option.map_eq_some_iff] at h
  obtain ⟨⟨r', ρ2⟩, h2, h⟩ := h
  cases h
  exact ⟨r, ρ1, r', h1, h2, rfl⟩
theorem av_cons (ha : Ev X R a fa) (hs : Av X R es fs) (hst : starEach (a :: es) X.env = (false, eval a X.env) :: starEach es X.env := by rfl) : Av X R (a :: es) (aCons fa fs) := by
  refine ⟨fun ρ r ρ' h => ?_, fun ρ r ρ' h => ?_, pa_mono (pa_cons ha.pe hs.pa hst) fun σ H Q h => ?_⟩
  · obtain ⟨r, ρ1, r', h1, h2, _⟩ := aCons_some h
    exact (hs.len _ _ _ h2).trans (ha.len _ _ _ h1)
  · obtain ⟨r, ρ1, r', h1, h2, rfl⟩ := aCons_some h
    rw [List.length_cons, List.length_cons, hs.cnt _ _ _ h2]
  · obtain ⟨e, F, ρ, tm, rs, ρ', hl, hB, hf, k⟩ := h
    obtain ⟨r, ρ1, r', h1, h2, rfl⟩ := aCons_some hf
    have l1 := ha.len _ _ _ h1
    refine ⟨e, F, ρ, tm, r, ρ1, hl, hB, h1, fun x H1 F1 B1 k1 => ?_⟩
    rw [List.append_assoc] at B1
    refine ⟨e, F1, ρ1, _, r', ρ', l1.trans hl, B1, h2, fun xs H2 F2 B2 k2 => k (x :: xs) H2 F2 ?_ (.cons k1 k2)⟩
    have e1 : ((r :: r').map tmpOf).zip ((x :: xs).map some) = [(tmpOf r, some x)] ++ (r'.map tmpOf).zip (xs.map some) := rfl
    rw [e1]
    rw [← List.append_assoc]
    rw [← List.append_assoc] at B2
    exact B2
end

/-- the values of temporaries, frozen -/
theorem Bag.vals {R : RE} {e : En} {H : Hp} : ∀ {rs : List Sl} {xs : List V} {F : Hp} {B : Bg} {ps : List PV}, Bag R e F H (B ++ rs.zip (xs.map some)) → rs.length = xs.length → valsOf rs = some ps → ∃ F', Sub F F' ∧ Bag R e F' H B ∧ RpL R F' ps xs
  | [], [], F, B, ps, hB, _, h => by
    cases h
    exact ⟨F, .refl, by simpa using hB, .nil⟩
  | [], _ :: _, _, _, _, _, l, _ => by cases l
  | _ :: _, [], _, _, _, _, l, _ => by cases l
  | r :: rs, x :: xs, F, B, ps, hB, l, h => by
    unfold valsOf at h
    rw [Option.bind_eq_some_iff] at h
    obtain ⟨p, h1, h⟩ := h
    rw [Option.map_eq_some_iff] at h
    obtain ⟨ps', h2, rfl⟩ := h
    have e1 : (B ++ (r :: rs).zip ((x :: xs).map some)) = (B ++ [(r, some x)]) ++ rs.zip (xs.map some) := by
      rw [List.append_assoc]; rfl
    rw [e1] at hB
    obtain ⟨F1, s1, B1, q1⟩ := Bag.vals hB (by simpa using l) h2
    cases r with
    | fz p' =>
      cases h1
      obtain ⟨y, ey, q⟩ := B1.all _ _ _ app_last
      cases ey
      exact ⟨F1, s1, B1.pop, .cons q q1⟩
    | own zs =>
      cases h1
      obtain ⟨F2, s2, B2⟩ := B1.freeze app_last
      rw [List.set_append_right _ _ (Nat.le_refl _), Nat.sub_self] at B2
      obtain ⟨y, ey, q⟩ := B2.all _ _ _ app_last
      cases ey
      exact ⟨F2, s1.trans s2, B2.pop, .cons q (q1.mono s2)⟩
    | _ => cases h1
theorem valOf_tmp {s : Sl} {p : PV} (h : valOf s = some p) : tmpOf s = s := by
  cases s <;> first | rfl | cases h
theorem valsOf_tmp : ∀ {rs : List Sl} {ps : List PV}, valsOf rs = some ps → rs.map tmpOf = rs
  | [], _, _ => rfl
  | r :: rs, ps, h => by
    unfold valsOf at h
    rw [Option.bind_eq_some_iff] at h
    obtain ⟨p, h1, h⟩ := h
    rw [Option.map_eq_some_iff] at h
    obtain ⟨ps', h2, rfl⟩ := h
    rw [List.map_cons, valOf_tmp h1, valsOf_tmp h2]
theorem valsOf_len : ∀ {rs : List Sl} {ps : List PV}, valsOf rs = some ps → rs.length = ps.length
  | [], _, h => by cases h; rfl
  | r :: rs, ps, h => by
    unfold valsOf at h
    rw [Option.bind_eq_some_iff] at h
    obtain ⟨p, h1, h⟩ := h
    rw [Option.map_eq_some_iff] at h
    obtain ⟨ps', h2, rfl⟩ := h
    rw [List.length_cons, List.length_cons, valsOf_len h2]
theorem Paired.len {α β : Type} {P : α → β → Prop} {xs : List α} {ys : List β} (h : Paired P xs ys) : xs.length = ys.length := Paired.length h

/-! ### displays -/
def eTup (fs : PFs) : PF := fun ρ => (fs ρ).bind fun x => (valsOf x.1).bind fun ps => if ps.length ≤ lineN then some (.fz (.tup ps), x.2) else none
def eLst (fs : PFs) : PF := fun ρ => (fs ρ).bind fun x => (valsOf x.1).bind fun ps => if ps.length ≤ lineN then some (.own ps, x.2) else none
section
variable {X : Cx} {R : RE} {a b : Expr} {es : List Expr} {fa fb : PF} {fs : PFs} {pos : Pos}
theorem ev_tup {x1 : Nat} (h : Av X R es fs) : Ev X R (.Tuple es x1 pos) (eTup fs) := by
  have key : ∀ {ρ ρ' : List Sl} {r : Sl}, eTup fs ρ = some (r, ρ') → ∃ rs ps, fs ρ = some (rs, ρ') ∧ valsOf rs = some ps ∧ ps.length ≤ lineN ∧ r = .fz (.tup ps) := by
    intro ρ ρ' r q
    unfold eTup at q
    rw [Option.bind_eq_some_iff] at q
    obtain ⟨⟨rs, ρ1⟩, h1, q⟩ := q
    rw [Option.bind_eq_some_iff] at q
    obtain ⟨ps, h2, q⟩ := q
    split at q
    · cases q; exact ⟨rs, ps, h1, h2, by assumption, rfl⟩
    · cases q
  refine ⟨fun ρ r ρ' q => ?_, pe_mono (pe_tup h.pa) fun σ H Q q => ?_⟩
  · obtain ⟨rs, ps, h1, _⟩ := key q
    exact h.len _ _ _ h1
  · obtain ⟨e, F, ρ, tm, r, ρ', hl, hB, hf, k⟩ := q
    obtain ⟨rs, ps, h1, h2, h3, rfl⟩ := key hf
    refine ⟨e, F, ρ, tm, rs, ρ', hl, hB, h1, fun xs H1 F1 B1 k1 => ?_⟩
    rw [valsOf_tmp h2] at B1
    obtain ⟨F2, s2, B2, q2⟩ := B1.vals (Paired.len k1) h2
    exact ⟨by rw [← q2.length, ← lineN_eq]; exact h3, fun p n => k _ _ _ (B2.new_tup n q2) pk_fz⟩
theorem ev_lst (h : Av X R es fs) : Ev X R (.List es pos) (eLst fs) := by
  have key : ∀ {ρ ρ' : List Sl} {r : Sl}, eLst fs ρ = some (r, ρ') → ∃ rs ps, fs ρ = some (rs, ρ') ∧ valsOf rs = some ps ∧ ps.length ≤ lineN ∧ r = .own ps := by
    intro ρ ρ' r q
    unfold eLst at q
    rw [Option.bind_eq_some_iff] at q
    obtain ⟨⟨rs, ρ1⟩, h1, q⟩ := q
    rw [Option.bind_eq_some_iff] at q
    obtain ⟨ps, h2, q⟩ := q
    split at q
    · cases q; exact ⟨rs, ps, h1, h2, by assumption, rfl⟩
    · cases q
  refine ⟨fun ρ r ρ' q => ?_, pe_mono (pe_lst h.pa) fun σ H Q q => ?_⟩
  · obtain ⟨rs, ps, h1, _⟩ := key q
    exact h.len _ _ _ h1
  · obtain ⟨e, F, ρ, tm, r, ρ', hl, hB, hf, k⟩ := q
    obtain ⟨rs, ps, h1, h2, h3, rfl⟩ := key hf
    refine ⟨e, F, ρ, tm, rs, ρ', hl, hB, h1, fun xs H1 F1 B1 k1 => ?_⟩
    rw [valsOf_tmp h2] at B1
    obtain ⟨F2, s2, B2, q2⟩ := B1.vals (Paired.len k1) h2
    exact ⟨by rw [← q2.length, ← lineN_eq]; exact h3, fun p n => k _ _ _ (B2.new_lst n q2) pk_own⟩
end

/-! ### built-in functions -/
inductive RqL (R : RE) (F H : Hp) : List PV → List V → Prop
  | nil : RqL R F H [] []
  | cons {p : PV} {ps : List PV} {v : V} {vs : List V} : Rq R F H p v → RqL R F H ps vs → RqL R F H (p :: ps) (v :: vs)
def eNary (op : List PV → Option Vl) (fs : PFs) : PF := fun ρ => (fs ρ).bind fun x => (conts x.2 x.1).bind fun ps => (op ps).map fun r => (r.sl, x.2)
def CallOk (R : RE) (op : List PV → Option Vl) (rd : List V → Hp → VK → Prop) : Prop := ∀ (e : En) (F H : Hp) (B : Bg) (ps : List PV) (xs : List V) (r : Vl) (Q : VK), Bag R e F H B → RqL R F H ps xs → op ps = some r →
  (∀ z H' F', Bag R e F' H' (B ++ [(r.sl, some z)]) → Q z H') → rd xs H Q
/-- all temporaries read, then dropped -/
theorem Bag.conts {R : RE} {e : En} {F H : Hp} {ρ : List Sl} {σ : L2.St} : ∀ {rs : List Sl} {xs : List V} {tm : Bg} {ps : List PV}, Bag R e F H (ρ.zip σ ++ tm ++ (rs.map tmpOf).zip (xs.map some)) → Paired (fun r x => PkOk r σ x) rs xs → PL.conts ρ rs = some ps →
    RqL R F H ps xs ∧ Bag R e F H (ρ.zip σ ++ tm)
  | [], [], tm, ps, hB, _, h => by
    cases h
    exact ⟨.nil, by simpa using hB⟩
  | r :: rs, x :: xs, tm, ps, hB, k, h => by
    unfold PL.conts at h
    rw [Option.bind_eq_some_iff] at h
    obtain ⟨p, h1, h⟩ := h
    rw [Option.map_eq_some_iff] at h
    obtain ⟨ps', h2, rfl⟩ := h
    cases k with
    | cons k1 k2 =>
      have e1 : (ρ.zip σ ++ tm ++ ((r :: rs).map tmpOf).zip ((x :: xs).map some)) = ρ.zip σ ++ (tm ++ [(tmpOf r, some x)]) ++ (rs.map tmpOf).zip (xs.map some) := by
        rw [← List.append_assoc (ρ.zip σ), List.append_assoc (ρ.zip σ ++ tm)]; rfl
      rw [e1] at hB
      obtain ⟨q1, B1⟩ := Bag.conts hB k2 h2
      have g1 : (ρ.zip σ ++ (tm ++ [(tmpOf r, some x)]))[(ρ.zip σ ++ tm).length]? = some (tmpOf r, some x) := by
        rw [← List.append_assoc]; exact app_last
      have q := B1.rq g1 k1 h1
      rw [← List.append_assoc] at B1
      exact ⟨.cons q q1, B1.pop⟩
section
variable {X : Cx} {R : RE} {a b : Expr} {es : List Expr} {fa fb : PF} {fs : PFs} {pos p : Pos}
theorem eNary_some {op : List PV → Option Vl} {ρ ρ' : List Sl} {r : Sl} (q : eNary op fs ρ = some (r, ρ')) : ∃ rs ps v, fs ρ = some (rs, ρ') ∧ PL.conts ρ' rs = some ps ∧ op ps = some v ∧ r = v.sl := by
  unfold eNary at q
  rw [Option.bind_eq_some_iff] at q
  obtain ⟨⟨rs, ρ1⟩, h1, q⟩ := q
  rw [Option.bind_eq_some_iff] at q
  obtain ⟨ps, h2, q⟩ := q
  rw [Option.map_eq_some_iff] at q
  obtain ⟨v, h3, q⟩ := q
  cases q
  exact ⟨rs, ps, v, h1, h2, h3, rfl⟩
theorem nary_len {op : List PV → Option Vl} (l : ∀ ρ r ρ', fs ρ = some (r, ρ') → ρ'.length = ρ.length) : ∀ ρ r ρ', eNary op fs ρ = some (r, ρ') → ρ'.length = ρ.length := fun ρ r ρ' q => by
  obtain ⟨rs, ps, v, h1, _⟩ := eNary_some q
  exact l _ _ _ h1
theorem tCB_of {op : List PV → Option Vl} {rd : List V → Hp → VK → Prop} (ho : CallOk R op rd) (σ : L2.St) (H : Hp) (Q : VK) (h : TEv R (eNary op fs) σ H Q) : tCB rd (TAv R fs) σ H Q := by
  obtain ⟨e, F, ρ, tm, r, ρ', hl, hB, hf, k⟩ := h
  obtain ⟨rs, ps, v, h1, h2, h3, rfl⟩ := eNary_some hf
  refine ⟨e, F, ρ, tm, rs, ρ', hl, hB, h1, fun xs H1 F1 B1 k1 => ?_⟩
  obtain ⟨q, B2⟩ := Bag.conts B1 k1 h2
  exact ho e F1 H1 _ ps xs v Q B2 q h3 fun z H' F' B' => k z H' F' (by rw [tmp_sl]; exact B') (sl_pk v σ z)
/-- f(e, ..), f a built-in function -/
theorem ev_callB {id : String} {x : Str} {op : List PV → Option Vl} {rd : List V → Hp → VK → Prop} (hc : CallR X (.builtin id) rd) (ho : CallOk R op rd) (hg : Gl X x) (hm : X.mg x = none) (hv : bootBuiltins x = some (.builtin id)) (h : Av X R (a :: es) fs)
    (hn : x ≠ "__name__" := by decide) (hdb : (x == ("__debug__" : Str)) = false := by decide) (he : starEach (a :: es) X.env = (false, eval a X.env) :: starEach es X.env := by rfl) (hpl : (backTo pos (starEach es X.env)).any (·.1) = false := by rfl) :
    Ev X R (.Call (.Name x p) (a :: es) [] pos) (eNary op fs) := ⟨nary_len h.len, pe_mono (pe_callB hc hg hm hv h.pa hn hdb he hpl) (tCB_of ho)⟩
/-- T(e, ..), T a built-in type -/
theorem ev_callTy {T : String} {x : Str} {op : List PV → Option Vl} {rd : List V → Hp → VK → Prop} (hc : CallR X (.type T) rd) (ho : CallOk R op rd) (hg : Gl X x) (hm : X.mg x = none) (hv : bootBuiltins x = some (.type T)) (h : Av X R (a :: es) fs)
    (hn : x ≠ "__name__" := by decide) (hdb : (x == ("__debug__" : Str)) = false := by decide) (he : starEach (a :: es) X.env = (false, eval a X.env) :: starEach es X.env := by rfl) (hpl : (backTo pos (starEach es X.env)).any (·.1) = false := by rfl) :
    Ev X R (.Call (.Name x p) (a :: es) [] pos) (eNary op fs) := ⟨nary_len h.len, pe_mono (pe_callTy hc hg hm hv h.pa hn hdb he hpl) (tCB_of ho)⟩
end

/-! ### which -/
theorem RqL.one {R : RE} {F H : Hp} {p : PV} {xs : List V} (h : RqL R F H [p] xs) : ∃ x, xs = [x] ∧ Rq R F H p x := by
  cases h with
  | cons q r => cases r; exact ⟨_, rfl, q⟩
theorem RqL.two {R : RE} {F H : Hp} {p q : PV} {xs : List V} (h : RqL R F H [p, q] xs) : ∃ x y, xs = [x, y] ∧ Rq R F H p x ∧ Rq R F H q y := by
  cases h with
  | cons q r =>
    cases r with
    | cons q2 r => cases r; exact ⟨_, _, rfl, q, q2⟩
theorem sub_len {R : RE} {F : Hp} {ps : List PV} {vs : List V} (h : RpL R F ps vs) : vs.length = ps.length := h.length.symm
def clLen : List PV → Option Vl
  | [.lst xs] => some (.fz (.int xs.length))
  | [.tup xs] => some (.fz (.int xs.length))
  | [.scr xs] => some (.fz (.int xs.length))
  | [.str z] => if z.length ≤ lineN then some (.fz (.int z.length)) else none
  | _ => none
theorem cok_len {R : RE} : CallOk R clLen (fun xs H Q => ∃ x n, xs = [x] ∧ LenV R.K x H n ∧ Q (.int n) H) := by
  intro e F H B ps xs r Q hB hp ho k
  unfold clLen at ho
  split at ho
  · cases ho
    obtain ⟨x, rfl, q⟩ := hp.one
    obtain ⟨a, vs, rfl, h1, r1⟩ := q.lst hB.sub
    exact ⟨_, _, rfl, .inl ⟨vs, SqL.of h1, r1.length⟩, k _ H F (hB.push_fz (.int _))⟩
  · cases ho
    obtain ⟨x, rfl, q⟩ := hp.one
    obtain ⟨a, vs, rfl, h1, r1⟩ := q.tup hB.sub
    exact ⟨_, _, rfl, .inr ⟨vs, h1, r1.length⟩, k _ H F (hB.push_fz (.int _))⟩
  · cases ho
    obtain ⟨x, rfl, q⟩ := hp.one
    obtain ⟨a, vs, rfl, h1, r1⟩ := q.scr hB.sub
    exact ⟨_, _, rfl, .inl ⟨vs, h1, r1.length⟩, k _ H F (hB.push_fz (.int _))⟩
  · rename_i z
    split at ho
    · rename_i c
      cases ho
      obtain ⟨x, rfl, q⟩ := hp.one
      rw [q.str]
      exact ⟨_, _, rfl, ⟨by rw [← lineN_eq]; exact c, rfl⟩, k _ H F (hB.push_fz (.int _))⟩
    · cases ho
  · cases ho
def clAbs : List PV → Option Vl
  | [.int i] => some (.fz (.int (if i < 0 then -i else i)))
  | _ => none
theorem cok_abs {R : RE} : CallOk R clAbs (fun xs H Q => ∃ i, xs = [.int i] ∧ Q (.int (if i < 0 then -i else i)) H) := by
  intro e F H B ps xs r Q hB hp ho k
  unfold clAbs at ho
  split at ho
  · cases ho
    obtain ⟨x, rfl, q⟩ := hp.one
    rw [q.int]
    exact ⟨_, rfl, k _ H F (hB.push_fz (.int _))⟩
  · cases ho
def clInt : List PV → Option Vl
  | [.int i] => some (.fz (.int i))
  | [.bl b] => some (.fz (.int (if b then 1 else 0)))
  | _ => none
theorem cok_int {R : RE} : CallOk R clInt (fun xs H Q => (∃ i, xs = [.int i] ∧ Q (.int i) H) ∨ ∃ k, xs = [.bl k] ∧ Q (.int (if k then 1 else 0)) H) := by
  intro e F H B ps xs r Q hB hp ho k
  unfold clInt at ho
  split at ho
  · cases ho
    obtain ⟨x, rfl, q⟩ := hp.one
    rw [q.int]
    exact .inl ⟨_, rfl, k _ H F (hB.push_fz (.int _))⟩
  · cases ho
    obtain ⟨x, rfl, q⟩ := hp.one
    rw [q.bl]
    exact .inr ⟨_, rfl, k _ H F (hB.push_fz (.int _))⟩
  · cases ho
/-- ints of a list -/
def intsOf : List PV → Option (List Int)
  | [] => some []
  | .int i :: r => (intsOf r).map fun is => i :: is
  | _ :: _ => none
theorem intsOf_eq : ∀ {ps : List PV} {ns : List Int}, intsOf ps = some ns → ps = ns.map PV.int
  | [], ns, h => by cases h; rfl
  | p :: ps, ns, h => by
    cases p with
    | int i =>
      unfold intsOf at h
      rw [Option.map_eq_some_iff] at h
      obtain ⟨is, h1, rfl⟩ := h
      rw [intsOf_eq h1]; rfl
    | _ => cases h
theorem intsOf_map : ∀ ns : List Int, intsOf (ns.map PV.int) = some ns
  | [] => rfl
  | n :: ns => by rw [List.map_cons, intsOf, intsOf_map ns]; rfl
def blsOf : List PV → Option (List Bool)
  | [] => some []
  | .bl i :: r => (blsOf r).map fun is => i :: is
  | _ :: _ => none
theorem blsOf_eq : ∀ {ps : List PV} {ns : List Bool}, blsOf ps = some ns → ps = ns.map PV.bl
  | [], ns, h => by cases h; rfl
  | p :: ps, ns, h => by
    cases p with
    | bl i =>
      unfold blsOf at h
      rw [Option.map_eq_some_iff] at h
      obtain ⟨is, h1, rfl⟩ := h
      rw [blsOf_eq h1]; rfl
    | _ => cases h
theorem blsOf_map : ∀ ns : List Bool, blsOf (ns.map PV.bl) = some ns
  | [] => rfl
  | n :: ns => by rw [List.map_cons, blsOf, blsOf_map ns]; rfl
/-- the greatest, the least of a list that is not empty -/
def maxL : List Int → Int
  | [] => 0
  | [x] => x
  | x :: r => max x (maxL r)
def minL : List Int → Int
  | [] => 0
  | [x] => x
  | x :: r => min x (minL r)
theorem maxL_ge : ∀ {ns : List Int} {y : Int}, y ∈ ns → y ≤ maxL ns
  | [x], y, h => by simp at h; subst h; exact Int.le_refl _
  | x :: z :: r, y, h => by
    show y ≤ max x (maxL (z :: r))
    rcases List.mem_cons.mp h with rfl | h
    · omega
    · have := maxL_ge h; omega
theorem minL_le : ∀ {ns : List Int} {y : Int}, y ∈ ns → minL ns ≤ y
  | [x], y, h => by simp at h; subst h; exact Int.le_refl _
  | x :: z :: r, y, h => by
    show min x (minL (z :: r)) ≤ y
    rcases List.mem_cons.mp h with rfl | h
    · omega
    · have := minL_le h; omega
theorem maxL_mem : ∀ {ns : List Int}, ns ≠ [] → maxL ns ∈ ns
  | [], h => absurd rfl h
  | [x], _ => by simp [maxL]
  | x :: z :: r, _ => by
    show max x (maxL (z :: r)) ∈ _
    have := maxL_mem (ns := z :: r) (by simp)
    rcases Int.le_total x (maxL (z :: r)) with h | h
    · rw [Int.max_eq_right h]; exact List.mem_cons_of_mem _ this
    · rw [Int.max_eq_left h]; exact List.mem_cons_self
theorem minL_mem : ∀ {ns : List Int}, ns ≠ [] → minL ns ∈ ns
  | [], h => absurd rfl h
  | [x], _ => by simp [minL]
  | x :: z :: r, _ => by
    show min x (minL (z :: r)) ∈ _
    have := minL_mem (ns := z :: r) (by simp)
    rcases Int.le_total x (minL (z :: r)) with h | h
    · rw [Int.min_eq_left h]; exact List.mem_cons_self
    · rw [Int.min_eq_right h]; exact List.mem_cons_of_mem _ this
def clMax : List PV → Option Vl
  | [.int i, .int j] => some (.fz (.int (max i j)))
  | [.lst xs] => (intsOf xs).bind fun ns => if ns.isEmpty then none else some (.fz (.int (maxL ns)))
  | _ => none
def clMin : List PV → Option Vl
  | [.int i, .int j] => some (.fz (.int (min i j)))
  | [.lst xs] => (intsOf xs).bind fun ns => if ns.isEmpty then none else some (.fz (.int (minL ns)))
  | _ => none
theorem cok_max {R : RE} : CallOk R clMax (fun xs H Q => (∃ i j, xs = [.int i, .int j] ∧ Q (.int (if j > i then j else i)) H) ∨ rMax R.K xs H Q) := by
  intro e F H B ps xs r Q hB hp ho k
  unfold clMax at ho
  split at ho
  · rename_i i j
    cases ho
    obtain ⟨x, y, rfl, q1, q2⟩ := hp.two
    rw [q1.int, q2.int]
    refine .inl ⟨i, j, rfl, ?_⟩
    have em : (if j > i then j else i) = max i j := by split <;> omega
    rw [em]
    exact k _ H F (hB.push_fz (.int _))
  · rename_i zs
    rw [Option.bind_eq_some_iff] at ho
    obtain ⟨ns, h1, ho⟩ := ho
    split at ho
    · cases ho
    · rename_i c
      cases ho
      obtain ⟨x, rfl, q⟩ := hp.one
      obtain ⟨a, vs, rfl, h2, r1⟩ := q.lst hB.sub
      rw [intsOf_eq h1] at r1
      rw [r1.ints] at h2
      have hne : ns ≠ [] := fun z => by rw [z] at c; exact c rfl
      refine .inr ⟨a, ns, rfl, SqL.of h2, by cases ns with | nil => exact absurd rfl hne | cons _ _ => simp, fun m hm hle => ?_⟩
      have em : m = maxL ns := by
        have h3 := maxL_ge hm
        have h4 := hle _ (maxL_mem hne)
        omega
      rw [em]
      exact k _ H F (hB.push_fz (.int _))
  · cases ho
theorem cok_min {R : RE} : CallOk R clMin (fun xs H Q => (∃ i j, xs = [.int i, .int j] ∧ Q (.int (if j < i then j else i)) H) ∨ rMin R.K xs H Q) := by
  intro e F H B ps xs r Q hB hp ho k
  unfold clMin at ho
  split at ho
  · rename_i i j
    cases ho
    obtain ⟨x, y, rfl, q1, q2⟩ := hp.two
    rw [q1.int, q2.int]
    refine .inl ⟨i, j, rfl, ?_⟩
    have em : (if j < i then j else i) = min i j := by split <;> omega
    rw [em]
    exact k _ H F (hB.push_fz (.int _))
  · rename_i zs
    rw [Option.bind_eq_some_iff] at ho
    obtain ⟨ns, h1, ho⟩ := ho
    split at ho
    · cases ho
    · rename_i c
      cases ho
      obtain ⟨x, rfl, q⟩ := hp.one
      obtain ⟨a, vs, rfl, h2, r1⟩ := q.lst hB.sub
      rw [intsOf_eq h1] at r1
      rw [r1.ints] at h2
      have hne : ns ≠ [] := fun z => by rw [z] at c; exact c rfl
      refine .inr ⟨a, ns, rfl, SqL.of h2, by cases ns with | nil => exact absurd rfl hne | cons _ _ => simp, fun m hm hle => ?_⟩
      have em : m = minL ns := by
        have h3 := minL_le hm
        have h4 := hle _ (minL_mem hne)
        omega
      rw [em]
      exact k _ H F (hB.push_fz (.int _))
  · cases ho
theorem callr_max {X : Cx} (hc : X.calm = true) : CallR X (.builtin "max") (fun xs H Q => (∃ i j, xs = [.int i, .int j] ∧ Q (.int (if j > i then j else i)) H) ∨ rMax X.K xs H Q) := (call_max2 hc).or (cr_max hc)
theorem callr_min {X : Cx} (hc : X.calm = true) : CallR X (.builtin "min") (fun xs H Q => (∃ i j, xs = [.int i, .int j] ∧ Q (.int (if j < i then j else i)) H) ∨ rMin X.K xs H Q) := (call_min2 hc).or (cr_min hc)
def clSum : List PV → Option Vl
  | [.lst xs] => (intsOf xs).map fun ns => .fz (.int ns.sum)
  | _ => none
theorem cok_sum {R : RE} : CallOk R clSum (rSum R.K) := by
  intro e F H B ps xs r Q hB hp ho k
  unfold clSum at ho
  split at ho
  · rename_i zs
    rw [Option.map_eq_some_iff] at ho
    obtain ⟨ns, h1, rfl⟩ := ho
    obtain ⟨x, rfl, q⟩ := hp.one
    obtain ⟨a, vs, rfl, h2, r1⟩ := q.lst hB.sub
    rw [intsOf_eq h1] at r1
    rw [r1.ints] at h2
    exact ⟨a, ns, rfl, SqL.of h2, k _ H F (hB.push_fz (.int _))⟩
  · cases ho
def clAll : List PV → Option Vl
  | [.lst xs] => (blsOf xs).map fun ns => .fz (.bl (ns.all id))
  | _ => none
def clAny : List PV → Option Vl
  | [.lst xs] => (blsOf xs).map fun ns => .fz (.bl (ns.any id))
  | _ => none
theorem cok_all {R : RE} : CallOk R clAll (rAll R.K) := by
  intro e F H B ps xs r Q hB hp ho k
  unfold clAll at ho
  split at ho
  · rename_i zs
    rw [Option.map_eq_some_iff] at ho
    obtain ⟨ns, h1, rfl⟩ := ho
    obtain ⟨x, rfl, q⟩ := hp.one
    obtain ⟨a, vs, rfl, h2, r1⟩ := q.lst hB.sub
    rw [blsOf_eq h1] at r1
    rw [r1.bls] at h2
    exact ⟨a, ns, rfl, SqL.of h2, k _ H F (hB.push_fz (.bl _))⟩
  · cases ho
theorem cok_any {R : RE} : CallOk R clAny (rAny R.K) := by
  intro e F H B ps xs r Q hB hp ho k
  unfold clAny at ho
  split at ho
  · rename_i zs
    rw [Option.map_eq_some_iff] at ho
    obtain ⟨ns, h1, rfl⟩ := ho
    obtain ⟨x, rfl, q⟩ := hp.one
    obtain ⟨a, vs, rfl, h2, r1⟩ := q.lst hB.sub
    rw [blsOf_eq h1] at r1
    rw [r1.bls] at h2
    exact ⟨a, ns, rfl, SqL.of h2, k _ H F (hB.push_fz (.bl _))⟩
  · cases ho
def clTuple : List PV → Option Vl
  | [.lst xs] => some (.fz (.tup xs))
  | [.tup xs] => some (.fz (.tup xs))
  | _ => none
theorem cok_tuple {R : RE} : CallOk R clTuple (fun xs H Q => ∃ p ys, xs = [.ref p] ∧ ((SqL R.K H p ys ∧ ∀ l, H l = none → Q (.ref l) (upd H l (.tup ys))) ∨ (SqT R.K H p ys ∧ Q (.ref p) H))) := by
  intro e F H B ps xs r Q hB hp ho k
  unfold clTuple at ho
  split at ho
  · cases ho
    obtain ⟨x, rfl, q⟩ := hp.one
    obtain ⟨a, vs, rfl, h2, r1⟩ := q.lst hB.sub
    exact ⟨a, vs, rfl, .inl ⟨SqL.of h2, fun l n => k _ _ _ (hB.new_tup n r1)⟩⟩
  · cases ho
    obtain ⟨x, rfl, q⟩ := hp.one
    have q' := q
    obtain ⟨a, vs, rfl, h2, r1⟩ := q.tup hB.sub
    rcases q' with h | ⟨_, _, _, _, z, _⟩
    · exact ⟨a, vs, rfl, .inr ⟨h2, k _ H F (hB.push_fz h)⟩⟩
    · cases z
  · cases ho
def clList : List PV → Option Vl
  | [.lst xs] => some (.own xs)
  | [.tup xs] => some (.own xs)
  | [.scr xs] => some (.own xs)
  | _ => none
theorem cok_list {R : RE} : CallOk R clList (fun xs H Q => ∃ p ys, xs = [.ref p] ∧ (SqL R.K H p ys ∨ SqT R.K H p ys) ∧ ∀ l, H l = none → Q (.ref l) (upd H l (.lst ys))) := by
  intro e F H B ps xs r Q hB hp ho k
  unfold clList at ho
  split at ho
  · cases ho
    obtain ⟨x, rfl, q⟩ := hp.one
    obtain ⟨a, vs, rfl, h2, r1⟩ := q.lst hB.sub
    exact ⟨a, vs, rfl, .inl (SqL.of h2), fun l n => k _ _ _ (hB.new_lst n r1)⟩
  · cases ho
    obtain ⟨x, rfl, q⟩ := hp.one
    obtain ⟨a, vs, rfl, h2, r1⟩ := q.tup hB.sub
    exact ⟨a, vs, rfl, .inr h2, fun l n => k _ _ _ (hB.new_lst n r1)⟩
  · cases ho
    obtain ⟨x, rfl, q⟩ := hp.one
    obtain ⟨a, vs, rfl, h2, r1⟩ := q.scr hB.sub
    exact ⟨a, vs, rfl, .inl h2, fun l n => k _ _ _ (hB.new_lst n r1)⟩
  · cases ho

/-! ### isinstance -/
def tyP : PV → Option Ty
  | .non => some .non
  | .bl _ => some .bool
  | .int _ => some .int
  | .str _ => some .str
  | .tup _ => some .tuple
  | .lst _ => some .list
  | .scr _ => some .list
  | _ => none
def subTy : Ty → Ty → Bool
  | .bool, .int => true
  | a, b => decide (a = b)
theorem kit_sub : ∀ a b : Ty, b ≠ .non → kitB a.nm b.nm = some (subTy a b) := by
  intro a b h
  cases a <;> cases b <;> first | exact absurd rfl h | decide +kernel
/-- isinstance(p, t) -/
def isTy (p : PV) (t : Ty) : Option Bool := if t = .non then none else (tyP p).map fun s => subTy s t
def isAny (p : PV) : List PV → Option Bool
  | [] => some false
  | .ty t :: r => (isTy p t).bind fun b => (isAny p r).map fun c => b || c
  | _ :: _ => none
def clIsi : List PV → Option Vl
  | [p, .ty t] => (isTy p t).map fun b => .fz (.bl b)
  | [p, .tup (t :: ts)] => (isAny p (t :: ts)).map fun b => .fz (.bl b)
  | _ => none
theorem tyx_of {R : RE} {H : Hp} {p : PV} {x : V} {t : Ty} (h : Rp R H p x) (e : tyP p = some t) : TyX R.K H x (.type t.nm) := by
  cases h with
  | non => cases e; exact .base .non
  | bl b => cases e; exact .base (.bl b)
  | int i => cases e; exact .base (.int i)
  | str i => cases e; exact .base (.str i)
  | tup q r =>
    cases e
    rcases q with q | ⟨o, its, n, q1, q2, _⟩
    · exact .base (.tup q)
    · exact .kTuple q1 q2
  | lst q r => cases e; exact .base (.lst q)
  | scr q r =>
    cases e
    rcases q with (q | ⟨o, q⟩) | ⟨o, its, n, q1, q2, _⟩
    · exact .base (.lst q)
    · exact .base (.frz q)
    · exact .kList q1 q2
  | _ => cases e
theorem isTy_ok {R : RE} {p : PV} {s t : Ty} {b : Bool} (hs : tyP p = some s) (h : isTy p t = some b) : PySem.W.kitOne R.K (.type s.nm) (.type t.nm) = some b := by
  unfold isTy at h
  rw [hs] at h
  by_cases ht : t = .non
  · rw [if_pos ht] at h; cases h
  · rw [if_neg ht] at h
    cases h
    exact kit_ty (kit_sub s t ht)
theorem isTy_ty {p : PV} {t : Ty} {b : Bool} (h : isTy p t = some b) : ∃ s, tyP p = some s := by
  unfold isTy at h
  split at h
  · cases h
  · rw [Option.map_eq_some_iff] at h
    obtain ⟨s, h, _⟩ := h
    exact ⟨s, h⟩
theorem isAny_ok {R : RE} {F : Hp} {p : PV} {s : Ty} (hs : tyP p = some s) : ∀ {ts : List PV} {vs : List V} {b : Bool}, RpL R F ts vs → isAny p ts = some b → ∃ us, Paired ClsV vs us ∧ PySem.W.kitAny R.K (.type s.nm) us = some b
  | [], _, b, .nil, h => by cases h; exact ⟨[], .nil, kitAny_nil⟩
  | q :: ts, _, b, .cons r1 r2, h => by
    cases r1 with
    | ty t =>
      unfold isAny at h
      rw [Option.bind_eq_some_iff] at h
      obtain ⟨b1, h1, h⟩ := h
      rw [Option.map_eq_some_iff] at h
      obtain ⟨c, h2, h⟩ := h
      obtain ⟨us, u1, u2⟩ := isAny_ok hs r2 h2
      have hk := isTy_ok (R := R) hs h1
      refine ⟨_, .cons (.ty _) u1, kitAny_cons hk (fun z => ?_) fun z => ?_⟩
      · rw [z] at h; rw [u2, ← h]; rfl
      · rw [z] at h; rw [← h]; rfl
    | _ => cases h
theorem cok_isi {R : RE} : CallOk R clIsi (fun xs H Q => rIsi R.K xs H Q ∨ (rIsiT R.K xs H Q ∨ rIsiK R.K xs H Q)) := by
  intro e F H B ps xs r Q hB hp ho k
  unfold clIsi at ho
  split at ho
  · rename_i p t
    rw [Option.map_eq_some_iff] at ho
    obtain ⟨b, h1, rfl⟩ := ho
    obtain ⟨x, y, rfl, q1, q2⟩ := hp.two
    obtain ⟨s, hs⟩ := isTy_ty h1
    have q2' := q2.rp hB.sub
    cases q2'
    exact .inl ⟨x, _, _, _, b, rfl, .ty _, tyx_of (q1.rp hB.sub) hs, isTy_ok hs h1, k _ H F (hB.push_fz (.bl _))⟩
  · rename_i p t0 ts
    rw [Option.map_eq_some_iff] at ho
    obtain ⟨b, h1, rfl⟩ := ho
    obtain ⟨x, y, rfl, q1, q2⟩ := hp.two
    cases q2.rp hB.sub with
    | tup q3 r1 =>
      cases hs : tyP p with
      | none =>
        unfold isAny at h1
        split at h1
        · rename_i e1; cases e1
        · rename_i t r e1
          rw [Option.bind_eq_some_iff] at h1
          obtain ⟨b1, h3, _⟩ := h1
          obtain ⟨s, hs'⟩ := isTy_ty h3
          rw [hs] at hs'; cases hs'
        · cases h1
      | some s =>
        obtain ⟨us, u1, u2⟩ := isAny_ok hs r1 h1
        have ty := tyx_of (q1.rp hB.sub) hs
        have fin : Q (.bl b) H := k _ H F (hB.push_fz (.bl _))
        rcases q3 with q3 | ⟨⟨oc, od, dt, sl⟩, its, n, e1, e2, e3, e4, e5⟩
        · exact .inr (.inl ⟨x, _, _, _, us, b, rfl, q3, u1, ty, u2, fin⟩)
        · simp only at e2 e3
          subst e2 e3
          have e6 := ClsV.all u1 e5
          refine .inr (.inr ⟨x, _, od, us, n, sl, _, b, rfl, ?_, ty, u2, fin⟩)
          rw [e1, ← e6]
  · cases ho
end PL
set_option Elab.async false
set_option linter.all false
set_option maxRecDepth 100000
set_option maxHeartbeats 4000000
/-! PLf: bags rearranged; calls of defs; instances. -/
namespace PL
open PySem PySem.Spec PyProof.Rows L2

section
variable {R : RE} {e : En} {F H : Hp} {B : Bg}
def Apart (p q : Sl × Option V) : Prop := ∀ a, adr p.1 p.2 = some a → adr q.1 q.2 ≠ some a
theorem Bag.apart (h : Bag R e F H B) : B.Pairwise Apart := by
  rw [List.pairwise_iff_getElem]
  intro i j hi hj hij a h1 h2
  have := h.dis i j B[i].1 B[j].1 B[i].2 B[j].2 a (List.getElem?_eq_getElem hi) (List.getElem?_eq_getElem hj) h1 h2
  omega
theorem Bag.mem (h : Bag R e F H B) {p : Sl × Option V} (hp : p ∈ B) : SlR R F H p.1 p.2 := by
  obtain ⟨i, hi, rfl⟩ := List.getElem_of_mem hp
  exact h.all i _ _ (List.getElem?_eq_getElem hi)
theorem Bag.mem_ow (h : Bag R e F H B) {p : Sl × Option V} (hp : p ∈ B) {a : Addr} (ha : adr p.1 p.2 = some a) : e.H a = none ∨ a ∈ e.W := by
  obtain ⟨i, hi, rfl⟩ := List.getElem_of_mem hp
  exact h.ow i _ _ a (List.getElem?_eq_getElem hi) ha
/-- another bag over the same heaps -/
theorem Bag.of (h : Bag R e F H B) {C : Bg} (hs : ∀ p ∈ C, SlR R F H p.1 p.2) (ha : C.Pairwise Apart) (ho : ∀ p ∈ C, ∀ a, adr p.1 p.2 = some a → e.H a = none ∨ a ∈ e.W) : Bag R e F H C := by
  refine ⟨h.sub, fun i s o g => hs (s, o) (List.mem_of_getElem? g), fun i j s t o u a g1 g2 a1 a2 => ?_, h.fr, h.frW, fun i s o a g a1 => ho (s, o) (List.mem_of_getElem? g) a a1, h.hf, h.hf0⟩
  rw [List.pairwise_iff_getElem] at ha
  obtain ⟨hi, ei⟩ := List.getElem?_eq_some_iff.mp g1
  obtain ⟨hj, ej⟩ := List.getElem?_eq_some_iff.mp g2
  rcases Nat.lt_trichotomy i j with z | z | z
  · exact absurd (by rw [ej]; exact a2) (ha i j hi hj z a (by rw [ei]; exact a1))
  · exact z
  · exact absurd (by rw [ei]; exact a1) (ha j i hj hi z a (by rw [ej]; exact a2))
theorem Bag.perm (h : Bag R e F H B) {C : Bg} (p : B.Perm C) : Bag R e F H C :=
  h.of (fun q hq => h.mem (p.mem_iff.mpr hq)) (h.apart.perm p fun {x y} z a h1 h2 => z a h2 h1) fun q hq a => h.mem_ow (p.mem_iff.mpr hq)
theorem Bag.sublist (h : Bag R e F H B) {C : Bg} (p : C.Sublist B) : Bag R e F H C :=
  h.of (fun q hq => h.mem (p.subset hq)) (h.apart.sublist p) fun q hq a => h.mem_ow (p.subset hq)
/-- at each place the old content, or one that owns nothing -/
theorem Bag.repl (h : Bag R e F H B) {C : Bg} (r : ∀ (i : Nat) (p : Sl × Option V), C[i]? = some p → B[i]? = some p ∨ (adr p.1 p.2 = none ∧ SlR R F H p.1 p.2)) : Bag R e F H C := by
  refine ⟨h.sub, fun i s o g => ?_, fun i j s t o u a g1 g2 a1 a2 => ?_, h.fr, h.frW, fun i s o a g a1 => ?_, h.hf, h.hf0⟩
  · rcases r i _ g with z | z
    · exact h.all i s o z
    · exact z.2
  · rcases r i _ g1 with z | z
    · rcases r j _ g2 with y | y
      · exact h.dis i j s t o u a z y a1 a2
      · rw [a2] at y; cases y.1
    · rw [a1] at z; cases z.1
  · rcases r i _ g with z | z
    · exact h.ow i s o a z a1
    · rw [a1] at z; cases z.1
theorem Bag.drop_mid {C : Bg} {p : Sl × Option V} (h : Bag R e F H (B ++ p :: C)) : Bag R e F H (B ++ C) :=
  h.sublist ((List.Sublist.refl B).append (List.sublist_cons_self p C))
theorem Bag.move_mid {C : Bg} {t : Sl} {u : Option V} (h : Bag R e F H (B ++ (t, u) :: C)) {i : Nat} (hi : i < B.length) : Bag R e F H (B.set i (t, u) ++ C) := by
  have p : (B ++ (t, u) :: C).Perm ((B ++ C) ++ [(t, u)]) := by
    rw [List.append_assoc]
    exact (List.Perm.refl B).append ((List.perm_append_singleton (t, u) C).symm)
  have h2 := (h.perm p).move (i := i) (by rw [List.length_append]; omega)
  rw [List.set_append_left _ _ hi] at h2
  exact h2

/-- what is lent: the own addresses -/
def lentOf (A : Bg) : List Addr := A.filterMap fun p => adr p.1 p.2
theorem mem_lent {A : Bg} {a : Addr} : a ∈ lentOf A ↔ ∃ p ∈ A, adr p.1 p.2 = some a := by
  unfold lentOf
  rw [List.mem_filterMap]
/-- the bag as a callee finds it -/
theorem Bag.enter (h : Bag R e F H B) : Bag R ⟨H, F, lentOf B⟩ F H B :=
  ⟨h.sub, h.all, h.dis, fun _ _ q _ => q, fun a ha => by
    obtain ⟨p, hp, q⟩ := mem_lent.mp ha
    obtain ⟨_, u, z⟩ := (h.mem hp).own_of q
    rw [z]; exact (fun z => nomatch z), fun i s o a g q => .inr (mem_lent.mpr ⟨_, List.mem_of_getElem? g, q⟩), fun _ _ q => .inl q, .refl⟩
/-- behind a call: what was not lent is as it was -/
theorem Bag.leave {A A' : Bg} {F' H' : Hp} (h : Bag R e F H (B ++ A)) (h' : Bag R ⟨H, F, lentOf A⟩ F' H' A') : Bag R e F' H' (B ++ A') := by
  have sF : Sub F F' := h'.hf0
  have cB : ∀ p ∈ B, ∀ a, adr p.1 p.2 = some a → a ∉ lentOf A ∧ F a = none ∧ ∃ u, H a = some u := fun p hp a ha => by
    refine ⟨fun z => ?_, (h.mem (List.mem_append_left _ hp)).own_of ha⟩
    obtain ⟨q, hq, hqa⟩ := mem_lent.mp z
    exact (List.pairwise_append.mp h.apart).2.2 p hp q hq a ha hqa
  have hk : ∀ p ∈ B, ∀ a, adr p.1 p.2 = some a → F' a = none ∧ H' a = H a := fun p hp a ha => by
    obtain ⟨n, f, u, hu⟩ := cB p hp a ha
    refine ⟨?_, by rw [h'.fr a u hu n, hu]⟩
    cases q : F' a with
    | none => rfl
    | some o =>
      rcases h'.hf a o q with z | z | z
      · have z' : F a = some o := z
        rw [f] at z'; cases z'
      · have z' : H a = none := z
        rw [hu] at z'; cases z'
      · exact absurd z n
  have eA : ∀ a ∈ lentOf A, e.H a = none ∨ a ∈ e.W := fun a ha => by
    obtain ⟨q, hq, hqa⟩ := mem_lent.mp ha
    exact h.mem_ow (List.mem_append_right _ hq) hqa
  have eN : ∀ a, H a = none → e.H a = none := fun a n => (h.new n).2.2.2
  have base : Bag R e F' H' [] := by
    refine ⟨h'.sub, fun i s o g => by simp at g, fun i j s t o u a g1 _ _ _ => by simp at g1, fun a o q w => ?_, fun a w z => ?_, fun i s o a g _ => by simp at g, fun a o q => ?_, h.hf0.trans sF⟩
    · refine h'.fr a o (h.fr a o q w) fun z => ?_
      rcases eA a z with y | y
      · rw [q] at y; cases y
      · exact w y
    · by_cases y : a ∈ lentOf A
      · exact h'.frW a y z
      · cases q : H a with
        | none => exact h.frW a w q
        | some u => rw [h'.fr a u q y] at z; cases z
    · rcases h'.hf a o q with z | z | z
      · exact h.hf a o z
      · exact .inr (.inl (eN a z))
      · exact .inr (eA a z)
  refine base.of (fun p hp => ?_) ?_ fun p hp a ha => ?_
  · rcases List.mem_append.mp hp with hp | hp
    · exact (h.mem (List.mem_append_left _ hp)).keep sF (hk p hp)
    · exact h'.mem hp
  · rw [List.pairwise_append]
    refine ⟨(List.pairwise_append.mp h.apart).1, h'.apart, fun p hp q hq a ha hqa => ?_⟩
    obtain ⟨n, f, u, hu⟩ := cB p hp a ha
    rcases h'.mem_ow hq hqa with z | z
    · have z' : H a = none := z
      rw [hu] at z'; cases z'
    · exact n z
  · rcases List.mem_append.mp hp with hp | hp
    · exact h.mem_ow (List.mem_append_left _ hp) ha
    · rcases h'.mem_ow hp ha with z | z
      · exact .inl (eN a z)
      · exact eA a z
end

/-! ### what a def promises -/
abbrev FP := List Sl → Option (Vl × List Sl)
/-- the promise: vs hold the contents as, f tells the answer and what comes back -/
def spF (R : RE) (n : Nat) (f : FP) : Sp := fun vs H Q _ => vs.length = n ∧ ∃ (F : Hp) (as : List Sl) (r : Vl) (as' : List Sl), as.length = n ∧ (∃ e0, Bag R e0 F H (as.zip (vs.map some))) ∧ f as = some (r, as') ∧
  ∀ x H' F', Bag R ⟨H, F, lentOf (as.zip (vs.map some))⟩ F' H' (as'.zip (vs.map some) ++ [(r.sl, some x)]) → Q x H'
/-- a def that is told by a function of its arguments' contents -/
structure FnP (P : Program) (w : World) (K : PySem.W.Frag) (mg : Str → Option Value) (base : Heap) (R : RE) (k : Nat) (f : Addr) (fd : FuncData) (ps : List Str) (fn : FP) : Prop where
  len : ∀ as r as', as.length = ps.length → fn as = some (r, as') → as'.length = as.length
  ok : FnOk P w K mg base CX0 k f fd ps (spF R ps.length fn)
/-- another function with the same answers -/
theorem FnP.imp {P : Program} {w : World} {K : PySem.W.Frag} {mg : Str → Option Value} {base : Heap} {R : RE} {k : Nat} {f : Addr} {fd : FuncData} {ps : List Str} {fn fn' : FP} (h : FnP P w K mg base R k f fd ps fn) (i : ∀ as r, fn' as = some r → fn as = some r) : FnP P w K mg base R k f fd ps fn' :=
  ⟨fun as r as' l q => h.len as r as' l (i as _ q), h.ok.imp fun vs H Q E ⟨l, F, as, r, as', la, hb, q, t⟩ => ⟨l, F, as, r, as', la, hb, i as _ q, t⟩⟩
/-- what was lent comes back -/
def putB : List Sl → List Sl → List Sl → List Sl
  | .br i _ :: as, s :: ss, ρ => putB as ss (ρ.set i s)
  | _ :: as, _ :: ss, ρ => putB as ss ρ
  | _, _, ρ => ρ
theorem putB_len : ∀ (as ss ρ : List Sl), (putB as ss ρ).length = ρ.length
  | [], _, ρ => by unfold putB; rfl
  | a :: as, [], ρ => by cases a <;> (unfold putB; rfl)
  | a :: as, s :: ss, ρ => by
    cases a <;> (unfold putB; first | exact putB_len as ss ρ | (rw [putB_len as ss, List.length_set]))
def eCall (f : FP) (fs : PFs) : PF := fun ρ => (fs ρ).bind fun x => (f (x.1.map tmpOf)).map fun y => (y.1.sl, putB x.1 y.2 x.2)
section
variable {R : RE} {e : En} {F H : Hp}
/-- the lent contents go home, the others away -/
theorem Bag.home {σ : L2.St} {tm C : Bg} : ∀ {as ss : List Sl} {xs : List V} {ρ : List Sl}, as.length = ss.length → ρ.length = σ.length → Paired (fun r x => PkOk r σ x) as xs → Bag R e F H (ρ.zip σ ++ tm ++ (ss.zip (xs.map some) ++ C)) → Bag R e F H ((putB as ss ρ).zip σ ++ tm ++ C)
  | [], [], [], ρ, _, _, _, h => by unfold putB; exact h
  | [], _ :: _, _, _, l, _, _, _ => by cases l
  | a :: as, [], _, _, l, _, _, _ => by cases l
  | a :: as, s :: ss, x :: xs, ρ, l, hl, .cons k ks, h => by
    have l' : as.length = ss.length := by simpa using l
    have e1 : (s :: ss).zip ((x :: xs).map some) = (s, some x) :: ss.zip (xs.map some) := rfl
    rw [e1, List.cons_append] at h
    have drop : Bag R e F H ((putB as ss ρ).zip σ ++ tm ++ C) := Bag.home l' hl ks h.drop_mid
    cases a with
    | br i t =>
      have hi := k i (.inr ⟨t, rfl⟩)
      unfold putB
      have hlt : i < (ρ.zip σ ++ tm).length := by
        have := (List.getElem?_eq_some_iff.mp hi).1
        rw [List.length_append, List.length_zip]; omega
      have h2 := h.move_mid hlt
      have hz : i < (ρ.zip σ).length := by
        have := (List.getElem?_eq_some_iff.mp hi).1
        rw [List.length_zip]; omega
      rw [List.set_append_left _ _ hz, ← zip_set hi] at h2
      exact Bag.home l' (by rw [List.length_set]; exact hl) ks h2
    | _ => unfold putB; exact drop
theorem tmp_adr {s : Sl} : True := trivial
end
section
variable {X : Cx} {R : RE} {a b : Expr} {es : List Expr} {fs : PFs} {pos p : Pos} {k : Nat} {f C : Addr} {fd : FuncData} {ps : List Str} {fn : FP} {x : Str}
theorem eCall_some {ρ ρ' : List Sl} {r : Sl} (q : eCall fn fs ρ = some (r, ρ')) : ∃ rs ρ1 v ss, fs ρ = some (rs, ρ1) ∧ fn (rs.map tmpOf) = some (v, ss) ∧ r = v.sl ∧ ρ' = putB rs ss ρ1 := by
  unfold eCall at q
  rw [Option.bind_eq_some_iff] at q
  obtain ⟨⟨rs, ρ1⟩, h1, q⟩ := q
  rw [Option.map_eq_some_iff] at q
  obtain ⟨⟨v, ss⟩, h2, q⟩ := q
  cases q
  exact ⟨rs, ρ1, v, ss, h1, h2, rfl, rfl⟩
theorem call_len (l : ∀ ρ r ρ', fs ρ = some (r, ρ') → ρ'.length = ρ.length) : ∀ ρ r ρ', eCall fn fs ρ = some (r, ρ') → ρ'.length = ρ.length := fun ρ r ρ' q => by
  obtain ⟨rs, ρ1, v, ss, h1, h2, _, rfl⟩ := eCall_some q
  rw [putB_len]; exact l _ _ _ h1
/-- the arguments' bag, then the callee's promise -/
theorem spF_of {e : En} {F1 H1 : Hp} {ρ1 : List Sl} {σ : L2.St} {tm : Bg} {rs ss : List Sl} {xs : List V} {v : Vl} {n : Nat} {Q : VK} {E : XK} (lf : ∀ as r as', as.length = n → fn as = some (r, as') → as'.length = as.length) (hn : rs.length = n) (hl : ρ1.length = σ.length)
    (B1 : Bag R e F1 H1 (ρ1.zip σ ++ tm ++ (rs.map tmpOf).zip (xs.map some))) (k1 : Paired (fun r x => PkOk r σ x) rs xs) (h2 : fn (rs.map tmpOf) = some (v, ss))
    (kk : ∀ z H' F', Bag R e F' H' ((putB rs ss ρ1).zip σ ++ tm ++ [(v.sl, some z)]) → Q z H') : spF R n fn xs H1 Q E := by
  have lx := Paired.len k1
  refine ⟨by omega, F1, rs.map tmpOf, v, ss, by simpa using hn, ⟨_, B1.sublist (List.sublist_append_right _ _)⟩, h2, fun z H' F' B' => kk z H' F' ?_⟩
  have ls := lf _ _ _ (by rw [List.length_map]; exact hn) h2
  rw [List.length_map] at ls
  exact Bag.home (C := [(v.sl, some z)]) ls.symm hl k1 (B1.leave B')
theorem ev_call (hf : FnP X.prog X.w X.K X.mg X.base R k f fd ps fn) (hr : Room k X.A) (hg : Gl X x) (hm : X.mg x = some (.ref f)) (hk : PySem.W.keepIn X.K (.ref f) = true) (hb : Binds X.K fd ps []) (ha : Av X R (a :: es) fs) (hn : (a :: es).length = ps.length := by rfl)
    (hdb : (x == ("__debug__" : Str)) = false := by decide) (he : starEach (a :: es) X.env = (false, eval a X.env) :: starEach es X.env := by rfl) (hpl : (backTo pos (starEach es X.env)).any (·.1) = false := by rfl) :
    Ev X R (.Call (.Name x p) (a :: es) [] pos) (eCall fn fs) := by
  refine ⟨call_len ha.len, pe_mono (pe_call hf.ok hr hg hm hk hb .nil pass0 ha.pa hdb he hpl) fun σ H Q h => ?_⟩
  obtain ⟨e, F, ρ, tm, r, ρ', hl, hB, hf', kk⟩ := h
  obtain ⟨rs, ρ1, v, ss, h1, h2, rfl, rfl⟩ := eCall_some hf'
  refine ⟨e, F, ρ, tm, rs, ρ1, hl, hB, h1, fun xs H1 F1 B1 k1 => ?_⟩
  show spF R ps.length fn (xs ++ []) H1 Q E0
  rw [List.append_nil]
  exact spF_of hf.len ((ha.cnt _ _ _ h1).trans hn) ((ha.len _ _ _ h1).trans hl) B1 k1 h2 fun z H' F' B' => kk z H' F' (by rw [tmp_sl]; exact B') (sl_pk v σ z)
theorem ev_call0 (hf : FnP X.prog X.w X.K X.mg X.base R k f fd ps fn) (hr : Room k X.A) (hg : Gl X x) (hm : X.mg x = some (.ref f)) (hk : PySem.W.keepIn X.K (.ref f) = true) (hb : Binds X.K fd ps []) (hn : 0 = ps.length := by rfl)
    (hdb : (x == ("__debug__" : Str)) = false := by decide) : Ev X R (.Call (.Name x p) [] [] pos) (eCall fn aNil) := by
  refine ⟨call_len (av_nil (X := X) (R := R)).len, pe_mono (pe_call0 hf.ok hr hg hm hk hb .nil pass0 hdb) fun σ H Q h => ?_⟩
  obtain ⟨e, F, ρ, tm, r, ρ', hl, hB, hf', kk⟩ := h
  obtain ⟨rs, ρ1, v, ss, h1, h2, rfl, rfl⟩ := eCall_some hf'
  cases h1
  refine spF_of (rs := []) (xs := []) (E := E0) hf.len hn hl (by simpa using hB) .nil h2 fun z H' F' B' => kk z H' F' (by rw [tmp_sl]; exact B') (sl_pk v σ z)
end

/-! ### instances -/
/-- C(..): __init__ fills a new instance -/
def eMake (c n : Nat) (f : FP) (fs : PFs) : PF := fun ρ => (fs ρ).bind fun x => (f (.obj c [] :: x.1.map tmpOf)).bind fun y => match y with
  | (.fz .non, .obj c' zs :: ss) => if c' = c ∧ zs.length = n then some (.fz (.ins c zs), putB x.1 ss x.2) else none
  | _ => none
section
variable {X : Cx} {R : RE} {a b : Expr} {es : List Expr} {fs : PFs} {fa : PF} {pos p : Pos} {k : Nat} {f C : Addr} {fd : FuncData} {ps : List Str} {fn : FP} {x : Str} {c n : Nat}
theorem eMake_some {ρ ρ' : List Sl} {r : Sl} (q : eMake c n fn fs ρ = some (r, ρ')) : ∃ rs ρ1 zs ss, fs ρ = some (rs, ρ1) ∧ fn (.obj c [] :: rs.map tmpOf) = some (.fz .non, .obj c zs :: ss) ∧ zs.length = n ∧ r = .fz (.ins c zs) ∧ ρ' = putB rs ss ρ1 := by
  unfold eMake at q
  rw [Option.bind_eq_some_iff] at q
  obtain ⟨⟨rs, ρ1⟩, h1, q⟩ := q
  rw [Option.bind_eq_some_iff] at q
  obtain ⟨y, h2, q⟩ := q
  split at q
  · rename_i c' zs ss
    split at q
    · rename_i cc
      cases q
      obtain ⟨rfl, l⟩ := cc
      exact ⟨rs, ρ1, zs, ss, h1, h2, l, rfl, rfl⟩
    · cases q
  · cases q
theorem ev_make (M : Mk X.K (R.cl c) f) (hf : FnP X.prog X.w X.K X.mg X.base R k f fd ps fn) (hfl : (R.fl c).length = n) (hr : Room (k + 1) X.A) (hg : Gl X x) (hm : X.mg x = some (.ref (R.cl c))) (hb : Binds X.K fd ps []) (ha : Av X R (a :: es) fs) (hn : (a :: es).length + 1 = ps.length := by rfl)
    (hdb : (x == ("__debug__" : Str)) = false := by decide) (he : starEach (a :: es) X.env = (false, eval a X.env) :: starEach es X.env := by rfl) (hpl : (backTo pos (starEach es X.env)).any (·.1) = false := by rfl) :
    Ev X R (.Call (.Name x p) (a :: es) [] pos) (eMake c n fn fs) := by
  refine ⟨fun ρ r ρ' q => ?_, pe_mono (pe_make M hf.ok hr hg hm hb .nil pass0 ha.pa hdb he hpl) fun σ H Q h => ?_⟩
  · obtain ⟨rs, ρ1, zs, ss, h1, h2, _, _, rfl⟩ := eMake_some q
    rw [putB_len]; exact ha.len _ _ _ h1
  · obtain ⟨e, F, ρ, tm, r, ρ', hl, hB, hf', kk⟩ := h
    obtain ⟨rs, ρ1, zs, ss, h1, h2, lz, rfl, rfl⟩ := eMake_some hf'
    refine ⟨e, F, ρ, tm, rs, ρ1, hl, hB, h1, fun xs H1 F1 B1 k1 y dx ny ndx ne => ?_⟩
    rw [List.append_nil]
    have lx := Paired.len k1
    have l1 := (ha.len _ _ _ h1).trans hl
    have lr := ha.cnt _ _ _ h1
    -- the new instance and its dict
    have B2 := (B1.lay (o := .own y) ndx)
    have ny2 : (upd H1 dx (.own y)) y = none := by rw [upd_ne (Ne.symm ne)]; exact ny
    have B3 := B2.lay (o := .ins (R.cl c) dx []) ny2
    obtain ⟨nF, nE, _, _⟩ := B2.new ny2
    have B4 : Bag R e F1 (upd (upd H1 dx (.own y)) y (.ins (R.cl c) dx [])) ((ρ1.zip σ ++ tm) ++ ((.obj c [] :: rs.map tmpOf).zip ((V.ref y :: xs).map some))) := by
      have e1 : (Sl.obj c [] :: rs.map tmpOf).zip ((V.ref y :: xs).map some) = (.obj c [], some (.ref y)) :: (rs.map tmpOf).zip (xs.map some) := rfl
      rw [e1]
      have B5 : Bag R e F1 (upd (upd H1 dx (.own y)) y (.ins (R.cl c) dx [])) (ρ1.zip σ ++ tm ++ (rs.map tmpOf).zip (xs.map some) ++ [(.obj c [], some (.ref y))]) := by
        refine B3.of (fun q hq => ?_) ?_ fun q hq a ha => ?_
        · rcases List.mem_append.mp hq with hq | hq
          · exact B3.mem hq
          · obtain rfl := List.mem_singleton.mp hq
            exact ⟨y, dx, [], rfl, nF, by rw [upd_same]; simp, Nat.zero_le _, .nil⟩
        · rw [List.pairwise_append]
          refine ⟨B3.apart, List.pairwise_singleton _ _, fun q hq q' hq' a h1 h2 => ?_⟩
          obtain rfl := List.mem_singleton.mp hq'
          cases h2
          obtain ⟨_, u, z⟩ := (B2.mem hq).own_of h1
          rw [ny2] at z; cases z
        · rcases List.mem_append.mp hq with hq | hq
          · exact B3.mem_ow hq ha
          · obtain rfl := List.mem_singleton.mp hq
            cases ha
            exact nE
      refine B5.perm ?_
      rw [List.append_assoc (ρ1.zip σ ++ tm)]
      exact (List.Perm.refl _).append (List.perm_append_singleton _ _)
    have lf := hf.len _ _ _ (by rw [List.length_cons, List.length_map]; omega) h2
    have ls : rs.length = ss.length := by
      have := lf
      simp only [List.length_cons, List.length_map] at this
      omega
    have q3 : (Sl.obj c [] :: rs.map tmpOf).length = rs.length + 1 := by simp
    refine ⟨by rw [List.length_cons]; omega, F1, .obj c [] :: rs.map tmpOf, .fz .non, .obj c zs :: ss, by omega, ⟨_, B4.sublist (List.sublist_append_right _ _)⟩, h2, fun z H' F' B' => ?_⟩
    have B6 := B4.leave B'
    have ez := (B6.rq_fz (x := z) (p := .non) (i := (ρ1.zip σ ++ tm ++ ((Sl.obj c zs :: ss).zip ((V.ref y :: xs).map some))).length) (by rw [← List.append_assoc]; exact app_last)).non
    refine ⟨ez, ?_⟩
    have B7 : Bag R e F' H' (ρ1.zip σ ++ tm ++ (.obj c zs, some (.ref y)) :: (ss.zip (xs.map some) ++ [])) := by
      rw [List.append_nil]
      have e1 : (Sl.obj c zs :: ss).zip ((V.ref y :: xs).map some) = (.obj c zs, some (.ref y)) :: ss.zip (xs.map some) := rfl
      rw [e1, ← List.append_assoc] at B6
      exact B6.pop
    obtain ⟨F2, s2, B8⟩ := B7.freezeObj (i := (ρ1.zip σ ++ tm).length) (c := c) (xs := zs) app_mid (by rw [lz, hfl])
    rw [List.set_append_right _ _ (Nat.le_refl _), Nat.sub_self] at B8
    have B9 : Bag R e F2 H' (ρ1.zip σ ++ tm ++ (ss.zip (xs.map some) ++ [(.fz (.ins c zs), some (.ref y))])) := by
      refine B8.perm ?_
      refine (List.Perm.refl _).append ?_
      rw [List.set_cons_zero, List.append_nil]
      exact (List.perm_append_singleton _ _).symm
    exact kk (.ref y) H' F2 (Bag.home ls l1 k1 B9) pk_fz
/-- e.f, an attribute of an instance; t: its place for each class that has it -/
def eFld (t : Nat → Option Nat) (fa : PF) : PF := fun ρ => (fa ρ).bind fun x => match x.1 with
  | .fz (.ins c xs) => (t c).bind fun j => (xs[j]?).map fun p => (.fz p, x.2)
  | _ => none
theorem lookup_zip : ∀ {fs : List Str} {vs : List V} {j : Nat} {g : Str} {v : V}, fs.Nodup → fs[j]? = some g → vs[j]? = some v → (fs.zip vs).lookup g = some v
  | [], _, _, _, _, _, h, _ => by simp at h
  | _ :: _, [], _, _, _, _, _, h => by simp at h
  | a :: fs, b :: vs, 0, g, v, nd, h1, h2 => by
    simp at h1 h2
    subst h1 h2
    rw [List.zip_cons_cons, List.lookup_cons]
    simp
  | a :: fs, b :: vs, j + 1, g, v, nd, h1, h2 => by
    rw [List.nodup_cons] at nd
    have hm : g ∈ fs := List.mem_of_getElem? (by simpa using h1)
    have hb : (g == a) = false := by
      rw [beq_eq_false_iff_ne]
      rintro rfl
      exact nd.1 hm
    rw [List.zip_cons_cons, List.lookup_cons, hb]
    exact lookup_zip (j := j) nd.2 (by simpa using h1) (by simpa using h2)
theorem ev_fld (hK : R.K = X.K) {g : Str} {t : Nat → Option Nat} (ht : ∀ c j, t c = some j → (R.fl c)[j]? = some g ∧ (R.fl c).Nodup ∧ Cls R.K (R.cl c) ∧ NoAttr R.K (R.cl c) g) (ha : Ev X R a fa) (hb : attributeBase a g X.env (eval a X.env) = eval a X.env := by rfl) : Ev X R (.Attribute a g pos) (eFld t fa) := by
  have key : ∀ {ρ ρ' : List Sl} {r : Sl}, eFld t fa ρ = some (r, ρ') → ∃ c xs j p, fa ρ = some (.fz (.ins c xs), ρ') ∧ t c = some j ∧ xs[j]? = some p ∧ r = .fz p := by
    intro ρ ρ' r q
    unfold eFld at q
    rw [Option.bind_eq_some_iff] at q
    obtain ⟨⟨r1, ρ1⟩, h1, q⟩ := q
    cases r1 with
    | fz p =>
      cases p with
      | ins c xs =>
        dsimp only at q
        rw [Option.bind_eq_some_iff] at q
        obtain ⟨j, h2, q⟩ := q
        rw [Option.map_eq_some_iff] at q
        obtain ⟨p, h3, q⟩ := q
        cases q
        exact ⟨c, xs, j, p, h1, h2, h3, rfl⟩
      | _ => cases q
    | _ => cases q
  refine ⟨fun ρ r ρ' q => ?_, pe_mono (pe_fld ha.pe hb) fun σ H Q h => ?_⟩
  · obtain ⟨c, xs, j, p, h1, _⟩ := key q
    exact ha.len _ _ _ h1
  · obtain ⟨e, F, ρ, tm, r, ρ', hl, hB, hf', kk⟩ := h
    obtain ⟨c, xs, j, p, h1, h2, h3, rfl⟩ := key hf'
    refine ⟨e, F, ρ, tm, _, ρ', hl, hB, h1, fun x H1 F1 B1 k1 => ?_⟩
    obtain ⟨y, ey, q⟩ := B1.all _ _ _ app_last
    cases ey
    obtain ⟨hg, nd, cl, na⟩ := ht c j h2
    cases q with
    | ins q l r =>
      obtain ⟨v, hv, rv⟩ := r.get' h3
      rw [hK] at cl na
      exact ⟨_, _, _, _, v, rfl, B1.sub _ _ q, cl, na, lookup_zip nd hg hv, kk v H1 F1 (B1.pop.push_fz rv) pk_fz⟩
end
end PL
set_option Elab.async false
set_option linter.all false
set_option maxRecDepth 100000
set_option maxHeartbeats 4000000
/-! PLg: statements. -/
namespace PL
open PySem PySem.Spec PyProof.Rows L2

inductive Fl where
  | nx | rt (v : Vl) | bk | ct
abbrev PSF := List Sl → Option (Fl × List Sl)
/-- what a statement's end gives -/
def SEnd (R : RE) (pr : List Nat) (e : En) (σ : L2.St) (tm : Bg) (D : Ends) (fl : Fl) (ρ' : List Sl) : Prop := ∀ (σ' : L2.St) (H' F' : Hp), σ'.length = σ.length → (∀ i ∈ pr, σ'[i]? = σ[i]?) →
  match fl with
  | .nx => Bag R e F' H' (ρ'.zip σ' ++ tm) → D.nx σ' H'
  | .rt v => ∀ x, Bag R e F' H' (ρ'.zip σ' ++ tm ++ [(v.sl, some x)]) → D.rt x H'
  | .bk => Bag R e F' H' (ρ'.zip σ' ++ tm) → D.bk σ' H'
  | .ct => Bag R e F' H' (ρ'.zip σ' ++ tm) → D.ct σ' H'
def TSv (R : RE) (pr : List Nat) (f : PSF) : TS := fun D σ H => ∃ (e : En) (F : Hp) (ρ : List Sl) (tm : Bg) (fl : Fl) (ρ' : List Sl), ρ.length = σ.length ∧ Bag R e F H (ρ.zip σ ++ tm) ∧ f ρ = some (fl, ρ') ∧ SEnd R pr e σ tm D fl ρ'
structure Sv (X : Cx) (R : RE) (pr : List Nat) (st : Stmt) (f : PSF) : Prop where
  len : ∀ ρ r ρ', f ρ = some (r, ρ') → ρ'.length = ρ.length
  ps : PS X st (TSv R pr f)
structure SSv (X : Cx) (R : RE) (pr : List Nat) (st : List Stmt) (f : PSF) : Prop where
  len : ∀ ρ r ρ', f ρ = some (r, ρ') → ρ'.length = ρ.length
  ps : PSs X st (TSv R pr f)
theorem SEnd.step {R : RE} {pr : List Nat} {e : En} {σ σ1 : L2.St} {tm : Bg} {D : Ends} {fl : Fl} {ρ' : List Sl} (h : SEnd R pr e σ tm D fl ρ') (l : σ1.length = σ.length) (p : ∀ i ∈ pr, σ1[i]? = σ[i]?) : SEnd R pr e σ1 tm D fl ρ' :=
  fun σ' H' F' l' p' => h σ' H' F' (l'.trans l) fun i hi => (p' i hi).trans (p i hi)

def sNil : PSF := fun ρ => some (.nx, ρ)
def sSeq (f g : PSF) : PSF := fun ρ => (f ρ).bind fun x => match x.1 with
  | .nx => g x.2
  | fl => some (fl, x.2)
def sIf (g : PT') (f h : PSF) : PSF := fun ρ => (g ρ).bind fun x => if x.1 = true then f x.2 else h x.2
def sNever : PSF := fun _ => none
def toVl : Sl → Option Vl
  | .fz p => some (.fz p)
  | .own xs => some (.own xs)
  | _ => none
theorem toVl_eq {s : Sl} {v : Vl} (h : toVl s = some v) : s = v.sl := by
  cases s <;> cases h <;> rfl
def sRet (f : PF) : PSF := fun ρ => (f ρ).bind fun x => (toVl x.1).map fun v => (.rt v, x.2)
def sRetN : PSF := fun ρ => some (.rt (.fz .non), ρ)
def sExpr (f : PF) : PSF := fun ρ => (f ρ).map fun x => (.nx, x.2)
def sSet (i : Nat) (f : PF) : PSF := fun ρ => (f ρ).bind fun x => (toVl x.1).map fun v => (.nx, x.2.set i v.sl)

section
variable {X : Cx} {R : RE} {pr : List Nat} {a b c : Expr} {fa fb : PF} {gc : PT'} {st : Stmt} {rest sa sb : List Stmt} {f g : PSF} {pos pos' : Pos}
theorem ssv_nil : SSv X R pr [] sNil := ⟨fun ρ r ρ' h => by cases h; rfl, pss_mono pss_nil fun D σ H h => by
  obtain ⟨e, F, ρ, tm, fl, ρ', hl, hB, hf, k⟩ := h
  cases hf
  exact k σ H F rfl (fun _ _ => rfl) hB⟩
theorem sSeq_some {ρ ρ' : List Sl} {fl : Fl} (h : sSeq f g ρ = some (fl, ρ')) : ∃ fl1 ρ1, f ρ = some (fl1, ρ1) ∧ ((fl1 = .nx ∧ g ρ1 = some (fl, ρ')) ∨ (fl1 ≠ .nx ∧ fl = fl1 ∧ ρ' = ρ1)) := by
  unfold sSeq at h
  rw [Option.bind_eq_some_iff] at h
  obtain ⟨⟨fl1, ρ1⟩, h1, h⟩ := h
  refine ⟨fl1, ρ1, h1, ?_⟩
  cases fl1 with
  | nx => exact .inl ⟨rfl, h⟩
  | rt v => cases h; exact .inr ⟨(fun z => nomatch z), rfl, rfl⟩
  | bk => cases h; exact .inr ⟨(fun z => nomatch z), rfl, rfl⟩
  | ct => cases h; exact .inr ⟨(fun z => nomatch z), rfl, rfl⟩
theorem ssv_cons (h1 : Sv X R pr st f) (h2 : SSv X R pr rest g) : SSv X R pr (st :: rest) (sSeq f g) := by
  refine ⟨fun ρ r ρ' h => ?_, pss_mono (pss_cons h1.ps h2.ps) fun D σ H h => ?_⟩
  · obtain ⟨fl1, ρ1, q1, q⟩ := sSeq_some h
    rcases q with ⟨_, q⟩ | ⟨_, _, rfl⟩
    · exact (h2.len _ _ _ q).trans (h1.len _ _ _ q1)
    · exact h1.len _ _ _ q1
  · obtain ⟨e, F, ρ, tm, fl, ρ', hl, hB, hf, k⟩ := h
    obtain ⟨fl1, ρ1, q1, q⟩ := sSeq_some hf
    have l1 := h1.len _ _ _ q1
    refine ⟨e, F, ρ, tm, fl1, ρ1, hl, hB, q1, ?_⟩
    rcases q with ⟨rfl, q⟩ | ⟨nn, rfl, rfl⟩
    · intro σ1 H1 F1 ls lp hB1
      exact ⟨e, F1, ρ1, tm, fl, ρ', by omega, hB1, q, k.step ls lp⟩
    · cases fl with
      | nx => exact absurd rfl nn
      | rt v => exact k
      | bk => exact k
      | ct => exact k
theorem ssv_one (h1 : Sv X R pr st f) : SSv X R pr [st] f := ⟨h1.len, pss_one h1.ps⟩
theorem sv_if (hc : Tv X R c gc) (h1 : SSv X R pr sa f) (h2 : SSv X R pr sb g) : Sv X R pr (.If c sa sb pos) (sIf gc f g) := by
  refine ⟨fun ρ r ρ' h => ?_, ps_mono (ps_if hc.pt h1.ps h2.ps) fun D σ H h => ?_⟩
  · unfold sIf at h
    rw [Option.bind_eq_some_iff] at h
    obtain ⟨⟨d, ρ1⟩, q1, h⟩ := h
    cases d with
    | true => exact (h1.len _ _ _ h).trans (hc.len _ _ _ q1)
    | false => exact (h2.len _ _ _ h).trans (hc.len _ _ _ q1)
  · obtain ⟨e, F, ρ, tm, fl, ρ', hl, hB, hf, k⟩ := h
    unfold sIf at hf
    rw [Option.bind_eq_some_iff] at hf
    obtain ⟨⟨d, ρ1⟩, q1, hf⟩ := hf
    refine ⟨e, F, ρ, tm, d, ρ1, hl, hB, q1, fun H1 F1 B1 => ?_⟩
    have l1 := hc.len _ _ _ q1
    cases d with
    | true => exact iteT ⟨e, F1, ρ1, tm, fl, ρ', by omega, B1, hf, k⟩
    | false => exact iteF ⟨e, F1, ρ1, tm, fl, ρ', by omega, B1, hf, k⟩
/-- code that is not come to -/
theorem sv_never : Sv X R pr st sNever := ⟨fun ρ r ρ' h => (nomatch h), ps_mono ps_never fun D σ H h => by
  obtain ⟨e, F, ρ, tm, fl, ρ', hl, hB, hf, k⟩ := h
  cases hf⟩
theorem ssv_never : SSv X R pr rest sNever := ⟨fun ρ r ρ' h => (nomatch h), pss_mono pss_never fun D σ H h => by
  obtain ⟨e, F, ρ, tm, fl, ρ', hl, hB, hf, k⟩ := h
  cases hf⟩
def sPass : PSF := sNil
theorem sv_pass : Sv X R pr (.Pass pos) sNil := ⟨fun ρ r ρ' h => by cases h; rfl, ps_mono ps_pass fun D σ H h => by
  obtain ⟨e, F, ρ, tm, fl, ρ', hl, hB, hf, k⟩ := h
  cases hf
  exact k σ H F rfl (fun _ _ => rfl) hB⟩
def sBreak : PSF := fun ρ => some (.bk, ρ)
def sCont : PSF := fun ρ => some (.ct, ρ)
theorem sv_break : Sv X R pr (.Break pos) sBreak := ⟨fun ρ r ρ' h => by cases h; rfl, ps_mono ps_break fun D σ H h => by
  obtain ⟨e, F, ρ, tm, fl, ρ', hl, hB, hf, k⟩ := h
  cases hf
  exact k σ H F rfl (fun _ _ => rfl) hB⟩
theorem sv_cont : Sv X R pr (.Continue pos) sCont := ⟨fun ρ r ρ' h => by cases h; rfl, ps_mono ps_continue fun D σ H h => by
  obtain ⟨e, F, ρ, tm, fl, ρ', hl, hB, hf, k⟩ := h
  cases hf
  exact k σ H F rfl (fun _ _ => rfl) hB⟩
theorem sRet_some {ρ ρ' : List Sl} {fl : Fl} (h : sRet fa ρ = some (fl, ρ')) : ∃ v : Vl, fa ρ = some (v.sl, ρ') ∧ fl = .rt v := by
  unfold sRet at h
  rw [Option.bind_eq_some_iff] at h
  obtain ⟨⟨r, ρ1⟩, q1, h⟩ := h
  rw [Option.map_eq_some_iff] at h
  obtain ⟨v, q2, h⟩ := h
  cases h
  dsimp only at q2
  rw [toVl_eq q2] at q1
  exact ⟨v, q1, rfl⟩
theorem sv_ret (h : Ev X R a fa) : Sv X R pr (.Return (some a) pos) (sRet fa) := by
  refine ⟨fun ρ r ρ' q => ?_, ps_mono (ps_ret h.pe) fun D σ H q => ?_⟩
  · obtain ⟨v, q1, _⟩ := sRet_some q
    exact h.len _ _ _ q1
  · obtain ⟨e, F, ρ, tm, fl, ρ', hl, hB, hf, k⟩ := q
    obtain ⟨v, q1, rfl⟩ := sRet_some hf
    refine ⟨e, F, ρ, tm, v.sl, ρ', hl, hB, q1, fun x H' F' B' _ => ?_⟩
    rw [tmp_sl] at B'
    exact k σ H' F' rfl (fun _ _ => rfl) x B'
theorem sv_retN : Sv X R pr (.Return none pos) sRetN := by
  refine ⟨fun ρ r ρ' q => by cases q; rfl, ps_mono ps_retN fun D σ H q => ?_⟩
  obtain ⟨e, F, ρ, tm, fl, ρ', hl, hB, hf, k⟩ := q
  cases hf
  exact k σ H F rfl (fun _ _ => rfl) .non (hB.push_fz .non)
theorem sv_expr (h : Ev X R a fa) (hs : swapsWith a none pos.line X.env = pure false := by rfl) : Sv X R pr (.Expr a pos) (sExpr fa) := by
  have key : ∀ {ρ ρ' : List Sl} {fl : Fl}, sExpr fa ρ = some (fl, ρ') → ∃ r, fa ρ = some (r, ρ') ∧ fl = .nx := by
    intro ρ ρ' fl q
    unfold sExpr at q
    rw [Option.map_eq_some_iff] at q
    obtain ⟨⟨r, ρ1⟩, q1, q⟩ := q
    cases q
    exact ⟨r, q1, rfl⟩
  refine ⟨fun ρ r ρ' q => ?_, ps_mono (ps_expr h.pe hs) fun D σ H q => ?_⟩
  · obtain ⟨v, q1, _⟩ := key q
    exact h.len _ _ _ q1
  · obtain ⟨e, F, ρ, tm, fl, ρ', hl, hB, hf, k⟩ := q
    obtain ⟨r, q1, rfl⟩ := key hf
    exact ⟨e, F, ρ, tm, r, ρ', hl, hB, q1, fun x H' F' B' _ => k σ H' F' rfl (fun _ _ => rfl) B'.pop⟩
theorem sv_doc {x : Str} {j : Nat} : Sv X R pr (.Expr (.Constant (.str x) j pos) pos') sNil := ⟨fun ρ r ρ' h => by cases h; rfl, ps_mono ps_doc fun D σ H h => by
  obtain ⟨e, F, ρ, tm, fl, ρ', hl, hB, hf, k⟩ := h
  cases hf
  exact k σ H F rfl (fun _ _ => rfl) hB⟩
theorem zip_set2 {ρ : List Sl} {σ : L2.St} {i : Nat} {s : Sl} {o : Option V} (hl : ρ.length = σ.length) : (ρ.set i s).zip (σ.set i o) = (ρ.zip σ).set i (s, o) := by
  by_cases hi : i < σ.length
  · apply List.ext_getElem?
    intro j
    by_cases z : i = j
    · subst z
      rw [List.getElem?_set_self (by rw [List.length_zip]; omega)]
      exact zip_get (List.getElem?_set_self (by omega)) (List.getElem?_set_self hi)
    · rw [List.getElem?_set_ne z]
      cases q : (ρ.zip σ)[j]? with
      | none =>
        rw [List.getElem?_eq_none_iff] at q ⊢
        rw [List.length_zip] at q ⊢
        rw [List.length_set, List.length_set]
        exact q
      | some p =>
        obtain ⟨s', o'⟩ := p
        rw [List.getElem?_zip_eq_some] at q ⊢
        rw [List.getElem?_set_ne z, List.getElem?_set_ne z]
        exact q
  · rw [List.set_eq_of_length_le (by omega), List.set_eq_of_length_le (by omega), List.set_eq_of_length_le (by rw [List.length_zip]; omega)]
/-- what lies behind the slots goes into slot i -/
theorem Bag.slot {e : En} {F H : Hp} {ρ : List Sl} {σ : L2.St} {tm C : Bg} {i : Nat} {s : Sl} {x : Option V} (h : Bag R e F H (ρ.zip σ ++ tm ++ (s, x) :: C)) (hl : ρ.length = σ.length) : Bag R e F H ((ρ.set i s).zip (σ.set i x) ++ tm ++ C) := by
  rw [zip_set2 hl]
  by_cases hi : i < (ρ.zip σ).length
  · have h2 := h.move_mid (i := i) (by rw [List.length_append]; omega)
    rw [List.set_append_left _ _ hi] at h2
    exact h2
  · rw [List.set_eq_of_length_le (by omega)]
    exact h.drop_mid
theorem pr_set {σ : L2.St} {i : Nat} {x : Option V} (h : i ∉ pr) : ∀ j ∈ pr, (σ.set i x)[j]? = σ[j]? := fun j hj => List.getElem?_set_ne fun z => by subst z; exact h hj
theorem sSet_some {i : Nat} {ρ ρ' : List Sl} {fl : Fl} (h : sSet i fa ρ = some (fl, ρ')) : ∃ (v : Vl) (ρ1 : List Sl), fa ρ = some (v.sl, ρ1) ∧ fl = .nx ∧ ρ' = ρ1.set i v.sl := by
  unfold sSet at h
  rw [Option.bind_eq_some_iff] at h
  obtain ⟨⟨r, ρ1⟩, q1, h⟩ := h
  rw [Option.map_eq_some_iff] at h
  obtain ⟨v, q2, h⟩ := h
  cases h
  dsimp only at q2
  rw [toVl_eq q2] at q1
  exact ⟨v, ρ1, q1, rfl, rfl⟩
theorem sSet_len {i : Nat} (l : ∀ ρ r ρ', fa ρ = some (r, ρ') → ρ'.length = ρ.length) : ∀ ρ r ρ', sSet i fa ρ = some (r, ρ') → ρ'.length = ρ.length := fun ρ r ρ' q => by
  obtain ⟨v, ρ1, q1, _, rfl⟩ := sSet_some q
  rw [List.length_set]; exact l _ _ _ q1
/-- the reading of a plain assignment to a name -/
theorem tSet_of {i : Nat} {D : Ends} {σ : L2.St} {H : Hp} (hp : i ∉ pr) (l : ∀ ρ r ρ', fa ρ = some (r, ρ') → ρ'.length = ρ.length) (h : TSv R pr (sSet i fa) D σ H) : tAsg (TEv R fa) (gName i) D σ H := by
  obtain ⟨e, F, ρ, tm, fl, ρ', hl, hB, hf, k⟩ := h
  obtain ⟨v, ρ1, q1, rfl, rfl⟩ := sSet_some hf
  refine ⟨e, F, ρ, tm, v.sl, ρ1, hl, hB, q1, fun x H' F' B' _ => ?_⟩
  rw [tmp_sl] at B'
  have l1 := l _ _ _ q1
  have B2 := Bag.slot (i := i) (C := []) B' (by omega)
  rw [List.append_nil] at B2
  exact k _ H' F' (by rw [List.length_set]) (pr_set hp) B2
theorem sv_set {i : Nat} {x : Str} (hN : X.N.Nodup) (hi : X.N[i]? = some x) (hx : Loc X.env.scope x) (hp : i ∉ pr) (h : Ev X R a fa) (hs : swapsWith a (some (.Name x pos')) pos.line X.env = pure false := by rfl) (hf : X.fn x = true ∨ X.env.scope.names.lookup x = some .local := by first | exact .inl rfl | exact .inr rfl | assumption) :
    Sv X R pr (.Assign [.Name x pos'] a pos) (sSet i fa) := ⟨sSet_len h.len, ps_mono (ps_set hN hi hx h.pe hs hf) fun D σ H q => tSet_of hp h.len q⟩

/-! ### two, three names at once -/
def sPar (i j : Nat) (fs : PFs) : PSF := fun ρ => (fs ρ).bind fun x => match x.1 with
  | [r, s] => (toVl r).bind fun v => (toVl s).map fun w => (.nx, (x.2.set i v.sl).set j w.sl)
  | _ => none
def sPar3 (i j l : Nat) (fs : PFs) : PSF := fun ρ => (fs ρ).bind fun x => match x.1 with
  | [r, s, t] => (toVl r).bind fun v => (toVl s).bind fun w => (toVl t).map fun u => (.nx, ((x.2.set i v.sl).set j w.sl).set l u.sl)
  | _ => none
theorem sPar_some {i j : Nat} {fs : PFs} {ρ ρ' : List Sl} {fl : Fl} (h : sPar i j fs ρ = some (fl, ρ')) : ∃ (v w : Vl) (ρ1 : List Sl), fs ρ = some ([v.sl, w.sl], ρ1) ∧ fl = .nx ∧ ρ' = (ρ1.set i v.sl).set j w.sl := by
  unfold sPar at h
  rw [Option.bind_eq_some_iff] at h
  obtain ⟨⟨rs, ρ1⟩, q1, h⟩ := h
  split at h
  · rename_i r s e1
    rw [Option.bind_eq_some_iff] at h
    obtain ⟨v, q2, h⟩ := h
    rw [Option.map_eq_some_iff] at h
    obtain ⟨w, q3, h⟩ := h
    cases h
    dsimp only at e1
    subst e1
    rw [toVl_eq q2, toVl_eq q3] at q1
    exact ⟨v, w, ρ1, q1, rfl, rfl⟩
  · cases h
theorem sPar3_some {i j l : Nat} {fs : PFs} {ρ ρ' : List Sl} {fl : Fl} (h : sPar3 i j l fs ρ = some (fl, ρ')) : ∃ (v w u : Vl) (ρ1 : List Sl), fs ρ = some ([v.sl, w.sl, u.sl], ρ1) ∧ fl = .nx ∧ ρ' = ((ρ1.set i v.sl).set j w.sl).set l u.sl := by
  unfold sPar3 at h
  rw [Option.bind_eq_some_iff] at h
  obtain ⟨⟨rs, ρ1⟩, q1, h⟩ := h
  split at h
  · rename_i r s t e1
    rw [Option.bind_eq_some_iff] at h
    obtain ⟨v, q2, h⟩ := h
    rw [Option.bind_eq_some_iff] at h
    obtain ⟨w, q3, h⟩ := h
    rw [Option.map_eq_some_iff] at h
    obtain ⟨u, q4, h⟩ := h
    cases h
    dsimp only at e1
    subst e1
    rw [toVl_eq q2, toVl_eq q3, toVl_eq q4] at q1
    exact ⟨v, w, u, ρ1, q1, rfl, rfl⟩
  · cases h
theorem sv_par {i j : Nat} {x y : Str} {fs : PFs} {px py pt : Pos} {kt k2 pt2} (hc : X.calm = true) (hN : X.N.Nodup) (hi : X.N[i]? = some x) (hj : X.N[j]? = some y) (hij : i ≠ j)
    (hx : X.env.scope.names.lookup x = some .local) (hy : X.env.scope.names.lookup y = some .local) (hp : i ∉ pr) (hp' : j ∉ pr) (h : Av X R [a, b] fs)
    (hw : swappedStores [.Tuple [.Name x px, .Name y py] kt pt] (.Tuple [a, b] k2 pt2) X.env = pure (some [x, y]))
    (hs : swapsWithSole [.Tuple [.Name x px, .Name y py] kt pt] (.Tuple [a, b] k2 pt2) pos.line X.env = pure false := by rfl) :
    Sv X R pr (.Assign [.Tuple [.Name x px, .Name y py] kt pt] (.Tuple [a, b] k2 pt2) pos) (sPar i j fs) := by
  refine ⟨fun ρ r ρ' q => ?_, ps_mono (ps_par hc hN hi hj hij hx hy h.pa hw hs) fun D σ H q => ?_⟩
  · obtain ⟨v, w, ρ1, q1, _, rfl⟩ := sPar_some q
    rw [List.length_set, List.length_set]; exact h.len _ _ _ q1
  · obtain ⟨e, F, ρ, tm, fl, ρ', hl, hB, hf, k⟩ := q
    obtain ⟨v, w, ρ1, q1, rfl, rfl⟩ := sPar_some hf
    refine ⟨e, F, ρ, tm, _, ρ1, hl, hB, q1, fun xs H' F' B' k1 => ?_⟩
    have l1 := h.len _ _ _ q1
    have lx := Paired.len k1
    match xs, lx with
    | [x1, x2], _ =>
      refine ⟨x1, x2, rfl, ?_⟩
      have e1 : ([v.sl, w.sl].map tmpOf).zip ([x1, x2].map some) = [(v.sl, some x1), (w.sl, some x2)] := by simp [tmp_sl]
      rw [e1] at B'
      have B2 := Bag.slot (i := i) B' (by omega)
      have B3 := Bag.slot (i := j) B2 (by rw [List.length_set, List.length_set]; omega)
      rw [List.append_nil] at B3
      exact k _ H' F' (by rw [List.length_set, List.length_set]) (fun m hm => by rw [pr_set hp' m hm, pr_set hp m hm]) B3
theorem sv_par3 {i j l : Nat} {x y z : Str} {fs : PFs} {px py pz pt : Pos} {kt k2 pt2} (hc : X.calm = true) (hN : X.N.Nodup) (hi : X.N[i]? = some x) (hj : X.N[j]? = some y) (hl3 : X.N[l]? = some z) (hij : i ≠ j) (hil : i ≠ l) (hjl : j ≠ l)
    (hx : X.env.scope.names.lookup x = some .local) (hy : X.env.scope.names.lookup y = some .local) (hz : X.env.scope.names.lookup z = some .local) (hp : i ∉ pr) (hp' : j ∉ pr) (hp2 : l ∉ pr) (h : Av X R [a, b, c] fs)
    (hw : swappedStores [.Tuple [.Name x px, .Name y py, .Name z pz] kt pt] (.Tuple [a, b, c] k2 pt2) X.env = pure (some [x, y, z]))
    (hs : swapsWithSole [.Tuple [.Name x px, .Name y py, .Name z pz] kt pt] (.Tuple [a, b, c] k2 pt2) pos.line X.env = pure false := by rfl) :
    Sv X R pr (.Assign [.Tuple [.Name x px, .Name y py, .Name z pz] kt pt] (.Tuple [a, b, c] k2 pt2) pos) (sPar3 i j l fs) := by
  refine ⟨fun ρ r ρ' q => ?_, ps_mono (ps_par3 hc hN hi hj hl3 hij hil hjl hx hy hz h.pa hw hs) fun D σ H q => ?_⟩
  · obtain ⟨v, w, u, ρ1, q1, _, rfl⟩ := sPar3_some q
    rw [List.length_set, List.length_set, List.length_set]; exact h.len _ _ _ q1
  · obtain ⟨e, F, ρ, tm, fl, ρ', hl, hB, hf, k⟩ := q
    obtain ⟨v, w, u, ρ1, q1, rfl, rfl⟩ := sPar3_some hf
    refine ⟨e, F, ρ, tm, _, ρ1, hl, hB, q1, fun xs H' F' B' k1 => ?_⟩
    have l1 := h.len _ _ _ q1
    have lx := Paired.len k1
    match xs, lx with
    | [x1, x2, x3], _ =>
      refine ⟨x1, x2, x3, rfl, ?_⟩
      have e1 : ([v.sl, w.sl, u.sl].map tmpOf).zip ([x1, x2, x3].map some) = [(v.sl, some x1), (w.sl, some x2), (u.sl, some x3)] := by simp [tmp_sl]
      rw [e1] at B'
      have B2 := Bag.slot (i := i) B' (by omega)
      have B3 := Bag.slot (i := j) B2 (by rw [List.length_set, List.length_set]; omega)
      have B4 := Bag.slot (i := l) B3 (by simp only [List.length_set]; omega)
      rw [List.append_nil] at B4
      exact k _ H' F' (by simp only [List.length_set]) (fun m hm => by rw [pr_set hp2 m hm, pr_set hp' m hm, pr_set hp m hm]) B4
end
end PL
set_option Elab.async false
set_option linter.all false
set_option maxRecDepth 100000
set_option maxHeartbeats 4000000
/-! PLh: targets, lists that are changed, loops. -/
namespace PL
open PySem PySem.Spec PyProof.Rows L2

/-! ### targets -/
abbrev PGF := PV → List Sl → Option (List Sl)
abbrev PGFs := List PV → List Sl → Option (List Sl)
def gNm (i : Nat) : PGF := fun p ρ => some (ρ.set i (.fz p))
def gsNil : PGFs := fun ps ρ => match ps with
  | [] => some ρ
  | _ => none
def gsCons (g : PGF) (gs : PGFs) : PGFs := fun ps ρ => match ps with
  | p :: r => (g p ρ).bind fun ρ1 => gs r ρ1
  | [] => none
def gTp (gs : PGFs) : PGF := fun p ρ => match p with
  | .tup ps => gs ps ρ
  | _ => none
def TGv (R : RE) (ws : List Nat) (g : PGF) : TG := fun v σ H Q => ∃ (e : En) (F : Hp) (ρ : List Sl) (tm : Bg) (p : PV) (ρ' : List Sl), ρ.length = σ.length ∧ Bag R e F H (ρ.zip σ ++ tm) ∧ Rp R F p v ∧ g p ρ = some ρ' ∧
  ∀ σ', σ'.length = σ.length → (∀ j, j ∉ ws → σ'[j]? = σ[j]?) → Bag R e F H (ρ'.zip σ' ++ tm) → Q σ' H
def TGsv (R : RE) (ws : List Nat) (g : PGFs) : TGs := fun vs σ H Q => ∃ (e : En) (F : Hp) (ρ : List Sl) (tm : Bg) (ps : List PV) (ρ' : List Sl), ρ.length = σ.length ∧ Bag R e F H (ρ.zip σ ++ tm) ∧ RpL R F ps vs ∧ g ps ρ = some ρ' ∧
  ∀ σ', σ'.length = σ.length → (∀ j, j ∉ ws → σ'[j]? = σ[j]?) → Bag R e F H (ρ'.zip σ' ++ tm) → Q σ' H
structure Gv (X : Cx) (R : RE) (t : Expr) (ws : List Nat) (g : PGF) : Prop where
  len : ∀ p ρ ρ', g p ρ = some ρ' → ρ'.length = ρ.length
  pg : PG X t (TGv R ws g)
structure Gsv (X : Cx) (R : RE) (t : List Expr) (ws : List Nat) (g : PGFs) : Prop where
  len : ∀ p ρ ρ', g p ρ = some ρ' → ρ'.length = ρ.length
  pgs : PGs X t (TGsv R ws g)
section
variable {X : Cx} {R : RE} {pos : Pos}
theorem pg_mono {t : Expr} {g g' : TG} (h : PG X t g) (m : ∀ v σ H Q, g' v σ H Q → g v σ H Q) : PG X t g' := ⟨fun pins s σ H v u Q I r q => h.run pins s σ H v u Q I r (m v σ H Q q)⟩
theorem pgs_mono {t : List Expr} {g g' : TGs} (h : PGs X t g) (m : ∀ v σ H Q, g' v σ H Q → g v σ H Q) : PGs X t g' := ⟨fun pins s σ H v u Q I r q => h.run pins s σ H v u Q I r (m v σ H Q q)⟩
theorem gv_name {i : Nat} {x : Str} (hN : X.N.Nodup) (hi : X.N[i]? = some x) (hx : Loc X.env.scope x) (hf : X.fn x = true ∨ X.env.scope.names.lookup x = some .local := by first | exact .inl rfl | exact .inr rfl | assumption) : Gv X R (.Name x pos) [i] (gNm i) := by
  refine ⟨fun p ρ ρ' h => by cases h; rw [List.length_set], pg_mono (pg_name hN hi hx hf) fun v σ H Q h => ?_⟩
  obtain ⟨e, F, ρ, tm, p, ρ', hl, hB, hr, hg, k⟩ := h
  cases hg
  have B2 : Bag R e F H (ρ.zip σ ++ tm ++ (.fz p, some v) :: []) := hB.push_fz hr
  have B3 := Bag.slot (i := i) B2 hl
  rw [List.append_nil] at B3
  exact k _ (by rw [List.length_set]) (fun j hj => List.getElem?_set_ne fun z => hj (by rw [z]; exact List.mem_singleton.mpr rfl)) B3
theorem gsv_nil : Gsv X R [] [] gsNil := by
  refine ⟨fun p ρ ρ' h => ?_, pgs_mono pgs_nil fun v σ H Q h => ?_⟩
  · unfold gsNil at h
    split at h
    · cases h; rfl
    · cases h
  · obtain ⟨e, F, ρ, tm, p, ρ', hl, hB, hr, hg, k⟩ := h
    unfold gsNil at hg
    split at hg
    · cases hg
      cases hr
      exact ⟨rfl, k σ rfl (fun _ _ => rfl) hB⟩
    · cases hg
theorem gsv_cons {t : Expr} {ts : List Expr} {ws vs : List Nat} {g : PGF} {gs : PGFs} (h1 : Gv X R t ws g) (h2 : Gsv X R ts vs gs) (hs : (assignEach (t :: ts) X.env).map (·.2) = assign t X.env :: (assignEach ts X.env).map (·.2) := by rfl) : Gsv X R (t :: ts) (ws ++ vs) (gsCons g gs) := by
  have key : ∀ {ps : List PV} {ρ ρ' : List Sl}, gsCons g gs ps ρ = some ρ' → ∃ p r ρ1, ps = p :: r ∧ g p ρ = some ρ1 ∧ gs r ρ1 = some ρ' := by
    intro ps ρ ρ' h
    unfold gsCons at h
    split at h
    · rename_i p r
      rw [Option.bind_eq_some_iff] at h
      obtain ⟨ρ1, q1, q2⟩ := h
      exact ⟨p, r, ρ1, rfl, q1, q2⟩
    · cases h
  refine ⟨fun p ρ ρ' h => ?_, pgs_mono (pgs_cons h1.pg h2.pgs hs) fun v σ H Q h => ?_⟩
  · obtain ⟨p, r, ρ1, _, q1, q2⟩ := key h
    exact (h2.len _ _ _ q2).trans (h1.len _ _ _ q1)
  · obtain ⟨e, F, ρ, tm, ps, ρ', hl, hB, hr, hg, k⟩ := h
    obtain ⟨p, r, ρ1, rfl, q1, q2⟩ := key hg
    cases hr with
    | @cons _ _ v1 vr r1 r2 =>
      refine ⟨v1, vr, rfl, e, F, ρ, tm, p, ρ1, hl, hB, r1, q1, fun σ1 l1 k1 B1 => ?_⟩
      refine ⟨e, F, ρ1, tm, r, ρ', by have := h1.len _ _ _ q1; omega, B1, r2, q2, fun σ2 l2 k2 B2 => k σ2 (l2.trans l1) (fun j hj => ?_) B2⟩
      rw [List.mem_append, not_or] at hj
      rw [k2 j hj.2, k1 j hj.1]
theorem gv_tup {es : List Expr} {ws : List Nat} {gs : PGFs} {k n : Nat} (hK : R.K = X.K) (hc : X.calm = true) (h : Gsv X R es ws gs) (ln : ∀ ps ρ ρ', gs ps ρ = some ρ' → ps.length = n) (hn : (assignEach es X.env).length = n := by rfl) (hst : (assignEach es X.env).findIdx? (·.1) = none := by rfl) :
    Gv X R (.Tuple es k pos) ws (gTp gs) := by
  refine ⟨fun p ρ ρ' q => ?_, pg_mono (pg_tup hc h.pgs hn hst) fun v σ H Q q => ?_⟩
  · unfold gTp at q
    split at q
    · exact h.len _ _ _ q
    · cases q
  · obtain ⟨e, F, ρ, tm, p, ρ', hl, hB, hr, hg, k⟩ := q
    unfold gTp at hg
    split at hg
    · rename_i ps
      cases hr with
      | tup q r =>
        have l := ln _ _ _ hg
        rw [hK] at q
        exact ⟨_, _, rfl, (hB.sub.sqT q.sq), by rw [← r.length]; exact l, e, F, ρ, tm, ps, ρ', hl, hB, r, hg, k⟩
    · cases hg
theorem gs_len0 : ∀ ps ρ ρ', gsNil ps ρ = some ρ' → ps.length = 0 := fun ps ρ ρ' h => by
  unfold gsNil at h
  split at h
  · rfl
  · cases h
theorem gs_lenS {g : PGF} {gs : PGFs} {n : Nat} (h : ∀ ps ρ ρ', gs ps ρ = some ρ' → ps.length = n) : ∀ ps ρ ρ', gsCons g gs ps ρ = some ρ' → ps.length = n + 1 := fun ps ρ ρ' q => by
  unfold gsCons at q
  split at q
  · rw [Option.bind_eq_some_iff] at q
    obtain ⟨ρ1, _, q2⟩ := q
    rw [List.length_cons, h _ _ _ q2]
  · cases q
end
/-- target = value, the value staying as it is -/
def sAsg (f : PF) (g : PGF) : PSF := fun ρ => (f ρ).bind fun x => (valOf x.1).bind fun p => (g p x.2).map fun ρ' => (.nx, ρ')
section
variable {X : Cx} {R : RE} {pr : List Nat} {a t : Expr} {fa : PF} {g : PGF} {ws : List Nat} {pos : Pos}
theorem sAsg_some {ρ ρ' : List Sl} {fl : Fl} (q : sAsg fa g ρ = some (fl, ρ')) : ∃ r ρ1 p, fa ρ = some (r, ρ1) ∧ valOf r = some p ∧ g p ρ1 = some ρ' ∧ fl = .nx := by
  unfold sAsg at q
  rw [Option.bind_eq_some_iff] at q
  obtain ⟨⟨r, ρ1⟩, h1, q⟩ := q
  rw [Option.bind_eq_some_iff] at q
  obtain ⟨p, h2, q⟩ := q
  rw [Option.map_eq_some_iff] at q
  obtain ⟨ρ2, h3, q⟩ := q
  cases q
  exact ⟨r, ρ1, p, h1, h2, h3, rfl⟩
/-- one temporary, frozen -/
theorem Bag.val {e : En} {F H : Hp} {B : Bg} {r : Sl} {x : V} {p : PV} (h : Bag R e F H (B ++ [(tmpOf r, some x)])) (v : valOf r = some p) : ∃ F', Sub F F' ∧ Bag R e F' H B ∧ Rp R F' p x := by
  have h2 : Bag R e F H (B ++ [r].zip ([x].map some)) := by rw [valOf_tmp v] at h; exact h
  obtain ⟨F', s, h3, q⟩ := h2.vals rfl (ps := [p]) (by unfold valsOf; rw [v]; rfl)
  cases q with
  | cons q _ => exact ⟨F', s, h3, q⟩
theorem sv_asg (h : Ev X R a fa) (hg : Gv X R t ws g) (hp : ∀ i ∈ pr, i ∉ ws) (hs : swapsWithSole [t] a pos.line X.env = pure false := by rfl) (hw : swappedStores [t] a X.env = pure none := by rfl)
    (h1 : (assignEach [t] X.env).map (·.2) = [assign t X.env] := by rfl) : Sv X R pr (.Assign [t] a pos) (sAsg fa g) := by
  refine ⟨fun ρ r ρ' q => ?_, ps_mono (ps_asg h.pe hg.pg hs hw h1) fun D σ H q => ?_⟩
  · obtain ⟨r, ρ1, p, q1, q2, q3, _⟩ := sAsg_some q
    exact (hg.len _ _ _ q3).trans (h.len _ _ _ q1)
  · obtain ⟨e, F, ρ, tm, fl, ρ', hl, hB, hf, k⟩ := q
    obtain ⟨r, ρ1, p, q1, q2, q3, rfl⟩ := sAsg_some hf
    have l1 := h.len _ _ _ q1
    refine ⟨e, F, ρ, tm, r, ρ1, hl, hB, q1, fun x H1 F1 B1 _ => ?_⟩
    obtain ⟨F2, s2, B2, rp⟩ := B1.val q2
    exact ⟨e, F2, ρ1, tm, p, ρ', by omega, B2, rp, q3, fun σ' l' k' B' => k σ' H1 F2 l' (fun i hi => k' i (hp i hi)) B'⟩
end

/-! ### lists of one's own, changed -/
/-- xs.append(e), xs in slot i -/
def eAppend (i : Nat) (f : PF) : PF := fun ρ => match ρ[i]? with
  | some (.own _) => (f ρ).bind fun x => (valOf x.1).bind fun p => match x.2[i]? with
    | some (.own xs) => if xs.length < lineN then some (.fz .non, x.2.set i (.own (xs ++ [p]))) else none
    | _ => none
  | _ => none
def eExtend (i : Nat) (f : PF) : PF := fun ρ => match ρ[i]? with
  | some (.own _) => (f ρ).bind fun x => (cont x.2 x.1).bind fun p => match p, x.2[i]? with
    | .lst ys, some (.own xs) => if xs.length + ys.length ≤ lineN then some (.fz .non, x.2.set i (.own (xs ++ ys))) else none
    | _, _ => none
  | _ => none
def ePop (i : Nat) : PF := fun ρ => match ρ[i]? with
  | some (.own xs) => (xs[xs.length - 1]?).map fun p => (.fz p, ρ.set i (.own xs.dropLast))
  | _ => none
section
variable {X : Cx} {R : RE} {pr : List Nat} {a : Expr} {fa : PF} {pos apos : Pos}
theorem slot_own {e : En} {F H : Hp} {ρ : List Sl} {σ : L2.St} {tm : Bg} (h : Bag R e F H (ρ.zip σ ++ tm)) (hl : ρ.length = σ.length) {i : Nat} {xs : List PV} (g : ρ[i]? = some (.own xs)) : ∃ a vs, σ[i]? = some (some (.ref a)) ∧ (ρ.zip σ ++ tm)[i]? = some (.own xs, some (.ref a)) ∧ F a = none ∧ H a = some (.lst vs) ∧ RpL R F xs vs := by
  obtain ⟨o, h2, h3, a, vs, rfl, h4, h5, h6⟩ := slot_some h hl g
  exact ⟨a, vs, h2, h3, h4, h5, h6⟩
/-- slot i written -/
theorem Bag.wslot {e : En} {F H : Hp} {ρ : List Sl} {σ : L2.St} {tm : Bg} (h : Bag R e F H (ρ.zip σ ++ tm)) (hl : ρ.length = σ.length) {i : Nat} {xs ys : List PV} {a : Addr} {us : List V} (g : ρ[i]? = some (.own xs)) (hs : σ[i]? = some (some (.ref a))) (hF : F a = none) (r : RpL R F ys us) :
    Bag R e F (upd H a (.lst us)) ((ρ.set i (.own ys)).zip σ ++ tm) := by
  have hi := (List.getElem?_eq_some_iff.mp g).1
  have h3 : (ρ.zip σ ++ tm)[i]? = some (.own xs, some (.ref a)) := app_get' (zip_get g hs)
  have h4 := h.write (t := .own ys) (o := .lst us) h3 rfl rfl ⟨a, us, rfl, hF, upd_same, r⟩
  rw [List.set_append_left _ _ (zip_lt hi hl), ← zip_set hs] at h4
  exact h4
theorem ev_append {i : Nat} {x : Str} {npos : Pos} (hN : X.N[i]? = some x) (hv : Vis X.env.scope x) (h : Ev X R a fa) (hd : (x == ("__debug__" : Str)) = false := by decide) (hcd : (x == ("__classdict__" : Str)) = false := by decide)
    (hbase : attributeBase (.Name x npos) "append" X.env (eval (.Name x npos) X.env) = eval (.Name x npos) X.env := by rfl)
    (hfew : ((backTo pos (starEach [a] X.env)).all (fun x => !x.1) && (backToKw pos (keywordEach [] X.env)).all (fun x => x.1.isSome)
      && decide (([a] : List Expr).length + ([] : List Keyword).length + (if ([] : List Keyword).isEmpty then 0 else 1) < 30)) = true := by rfl)
    (hline : (apos.endLine == pos.line) = true := by rfl) (hs : starEach [a] X.env = (false, eval a X.env) :: starEach [] X.env := by rfl) (hplain : (backTo pos (starEach [] X.env)).any (·.1) = false := by rfl) :
    Ev X R (.Call (.Attribute (.Name x npos) "append" apos) [a] [] pos) (eAppend i fa) := by
  have key : ∀ {ρ ρ' : List Sl} {r : Sl}, eAppend i fa ρ = some (r, ρ') → ∃ xs0 r1 ρ1 p xs, ρ[i]? = some (.own xs0) ∧ fa ρ = some (r1, ρ1) ∧ valOf r1 = some p ∧ ρ1[i]? = some (.own xs) ∧ xs.length < lineN ∧ r = .fz .non ∧ ρ' = ρ1.set i (.own (xs ++ [p])) := by
    intro ρ ρ' r q
    unfold eAppend at q
    split at q
    · rename_i xs0 g0
      rw [Option.bind_eq_some_iff] at q
      obtain ⟨⟨r1, ρ1⟩, h1, q⟩ := q
      rw [Option.bind_eq_some_iff] at q
      obtain ⟨p, h2, q⟩ := q
      split at q
      · rename_i xs g1
        split at q
        · cases q
          exact ⟨xs0, r1, ρ1, p, xs, g0, h1, h2, g1, by assumption, rfl, rfl⟩
        · cases q
      · cases q
    · cases q
  refine ⟨fun ρ r ρ' q => ?_, pe_mono (pe_bm PySem.F.plainAttrs_list PySem.F.slot_list_append PySem.F.type_list_append mt_append (pe_var hN hv hd hcd) (pa_cons h.pe pa_nil hs) hbase hfew hline hs hplain) fun σ H Q q => ?_⟩
  · obtain ⟨xs0, r1, ρ1, p, xs, _, h1, _, _, _, _, rfl⟩ := key q
    rw [List.length_set]; exact h.len _ _ _ h1
  · obtain ⟨e, F, ρ, tm, r, ρ', hl, hB, hf, k⟩ := q
    obtain ⟨xs0, r1, ρ1, p, xs, g0, h1, h2, g1, hz, rfl, rfl⟩ := key hf
    obtain ⟨b, vs0, s0, _, _, hb0, _⟩ := slot_own hB hl g0
    refine ⟨.ref b, s0, .inl ⟨rfl, _, SqL.of hb0⟩, e, F, ρ, tm, r1, ρ1, hl, hB, h1, fun y H1 F1 B1 _ => ?_⟩
    obtain ⟨F2, s2, B2, rp⟩ := B1.val h2
    have l1 := h.len _ _ _ h1
    obtain ⟨b', vs, s1, _, hF, hH, hr⟩ := slot_own B2 (by omega) g1
    have eb : b' = b := by rw [s0] at s1; cases s1; rfl
    subst eb
    refine ⟨b', vs, y, rfl, rfl, hH, by rw [← hr.length, ← lineN_eq]; exact hz, ?_⟩
    have B3 := B2.wslot (by omega) g1 s1 hF (hr.append (.one rp))
    exact k _ _ F2 (B3.push_fz .non) pk_fz
theorem ev_extend {i : Nat} {x : Str} {npos : Pos} (hN : X.N[i]? = some x) (hv : Vis X.env.scope x) (h : Ev X R a fa) (hd : (x == ("__debug__" : Str)) = false := by decide) (hcd : (x == ("__classdict__" : Str)) = false := by decide)
    (hbase : attributeBase (.Name x npos) "extend" X.env (eval (.Name x npos) X.env) = eval (.Name x npos) X.env := by rfl)
    (hfew : ((backTo pos (starEach [a] X.env)).all (fun x => !x.1) && (backToKw pos (keywordEach [] X.env)).all (fun x => x.1.isSome)
      && decide (([a] : List Expr).length + ([] : List Keyword).length + (if ([] : List Keyword).isEmpty then 0 else 1) < 30)) = true := by rfl)
    (hline : (apos.endLine == pos.line) = true := by rfl) (hs : starEach [a] X.env = (false, eval a X.env) :: starEach [] X.env := by rfl) (hplain : (backTo pos (starEach [] X.env)).any (·.1) = false := by rfl) :
    Ev X R (.Call (.Attribute (.Name x npos) "extend" apos) [a] [] pos) (eExtend i fa) := by
  have key : ∀ {ρ ρ' : List Sl} {r : Sl}, eExtend i fa ρ = some (r, ρ') → ∃ xs0 r1 ρ1 ys xs, ρ[i]? = some (.own xs0) ∧ fa ρ = some (r1, ρ1) ∧ cont ρ1 r1 = some (.lst ys) ∧ ρ1[i]? = some (.own xs) ∧ xs.length + ys.length ≤ lineN ∧ r = .fz .non ∧ ρ' = ρ1.set i (.own (xs ++ ys)) := by
    intro ρ ρ' r q
    unfold eExtend at q
    split at q
    · rename_i xs0 g0
      rw [Option.bind_eq_some_iff] at q
      obtain ⟨⟨r1, ρ1⟩, h1, q⟩ := q
      rw [Option.bind_eq_some_iff] at q
      obtain ⟨p, h2, q⟩ := q
      split at q
      · rename_i ys xs g1
        split at q
        · cases q
          exact ⟨xs0, r1, ρ1, ys, xs, g0, h1, h2, g1, by assumption, rfl, rfl⟩
        · cases q
      · cases q
    · cases q
  refine ⟨fun ρ r ρ' q => ?_, pe_mono (pe_bm PySem.F.plainAttrs_list PySem.F.slot_list_extend PySem.F.type_list_extend mt_extend (pe_var hN hv hd hcd) (pa_cons h.pe pa_nil hs) hbase hfew hline hs hplain) fun σ H Q q => ?_⟩
  · obtain ⟨xs0, r1, ρ1, p, xs, _, h1, _, _, _, _, rfl⟩ := key q
    rw [List.length_set]; exact h.len _ _ _ h1
  · obtain ⟨e, F, ρ, tm, r, ρ', hl, hB, hf, k⟩ := q
    obtain ⟨xs0, r1, ρ1, ys, xs, g0, h1, h2, g1, hz, rfl, rfl⟩ := key hf
    obtain ⟨b, vs0, s0, _, _, hb0, _⟩ := slot_own hB hl g0
    refine ⟨.ref b, s0, .inl ⟨rfl, _, SqL.of hb0⟩, e, F, ρ, tm, r1, ρ1, hl, hB, h1, fun y H1 F1 B1 k1 => ?_⟩
    have q1 : Rq R F1 H1 (.lst ys) y := by
      have g1 : (ρ1.zip σ ++ tm ++ [(tmpOf r1, some y)])[(ρ1.zip σ ++ tm).length]? = some (tmpOf r1, some y) := app_last
      have B1' := B1
      rw [List.append_assoc] at B1' g1
      exact B1'.rq g1 k1 h2
    have B2 := B1.pop
    have l1 := h.len _ _ _ h1
    obtain ⟨c, us, rfl, hc, rc⟩ := q1.lst B2.sub
    obtain ⟨b', vs, s1, _, hF, hH, hr⟩ := slot_own B2 (by omega) g1
    have eb : b' = b := by rw [s0] at s1; cases s1; rfl
    subst eb
    refine ⟨b', c, vs, us, rfl, rfl, hH, hc, by rw [← hr.length, ← rc.length, ← lineN_eq]; exact hz, ?_⟩
    have B3 := B2.wslot (by omega) g1 s1 hF (hr.append rc)
    exact k _ _ F1 (B3.push_fz .non) pk_fz
theorem RpL.dropLast {F : Hp} {ps : List PV} {vs : List V} (h : RpL R F ps vs) : RpL R F ps.dropLast vs.dropLast := by
  rw [List.dropLast_eq_take, List.dropLast_eq_take, h.length]; exact h.take _
theorem ev_pop {i : Nat} {x : Str} {npos : Pos} (hN : X.N[i]? = some x) (hv : Vis X.env.scope x) (hd : (x == ("__debug__" : Str)) = false := by decide) (hcd : (x == ("__classdict__" : Str)) = false := by decide)
    (hbase : attributeBase (.Name x npos) "pop" X.env (eval (.Name x npos) X.env) = eval (.Name x npos) X.env := by rfl) (hline : (apos.endLine == pos.line) = true := by rfl) :
    Ev X R (.Call (.Attribute (.Name x npos) "pop" apos) [] [] pos) (ePop i) := by
  have key : ∀ {ρ ρ' : List Sl} {r : Sl}, ePop i ρ = some (r, ρ') → ∃ xs p, ρ[i]? = some (.own xs) ∧ xs[xs.length - 1]? = some p ∧ r = .fz p ∧ ρ' = ρ.set i (.own xs.dropLast) := by
    intro ρ ρ' r q
    unfold ePop at q
    split at q
    · rename_i xs g0
      rw [Option.map_eq_some_iff] at q
      obtain ⟨p, h1, q⟩ := q
      cases q
      exact ⟨xs, p, g0, h1, rfl, rfl⟩
    · cases q
  refine ⟨fun ρ r ρ' q => ?_, pe_mono (pe_bm0 PySem.F.plainAttrs_list PySem.F.slot_list_pop PySem.F.type_list_pop mt_pop (pe_var hN hv hd hcd) hbase hline) fun σ H Q q => ?_⟩
  · obtain ⟨xs, p, _, _, _, rfl⟩ := key q
    rw [List.length_set]
  · obtain ⟨e, F, ρ, tm, r, ρ', hl, hB, hf, k⟩ := q
    obtain ⟨xs, p, g0, h1, rfl, rfl⟩ := key hf
    obtain ⟨b, vs, s0, _, hF, hb, hr⟩ := slot_own hB hl g0
    obtain ⟨v, hv, rv⟩ := hr.get' h1
    refine ⟨.ref b, s0, .inl ⟨rfl, _, SqL.of hb⟩, b, vs, v, rfl, rfl, hb, by rw [← hr.length]; exact hv, ?_⟩
    have B3 := hB.wslot hl g0 s0 hF hr.dropLast
    exact k _ _ F (B3.push_fz rv) pk_fz
/-- xs[i] = e, xs in slot k -/
def sSetIx (i : Nat) (fa fi : PF) : PSF := fun ρ => (fa ρ).bind fun x => (valOf x.1).bind fun p => match x.2[i]? with
  | some (.own _) => (fi x.2).bind fun y => match y.1, y.2[i]? with
    | .fz (.int j), some (.own xs) => (ixN xs.length j).map fun m => (.nx, y.2.set i (.own (xs.set m p)))
    | _, _ => none
  | _ => none
theorem sv_setIx {i : Nat} {x : Str} {npos spos : Pos} {b : Expr} {fb : PF} (hN : X.N[i]? = some x) (hv : Vis X.env.scope x) (h : Ev X R a fa) (hi : Ev X R b fb) (hd : (x == ("__debug__" : Str)) = false := by decide) (hcd : (x == ("__classdict__" : Str)) = false := by decide)
    (ha : ∀ v, assign (.Subscript (.Name x npos) b spos) X.env v = (do
      let ov ← holding [v] (eval (.Name x npos) X.env)
      let iv ← holding [v, ov] (eval b X.env)
      standAt spos
      holding [v, ov, iv] (setItem ov iv v)
      release [v, ov, iv] []) := by intro _; rfl)
    (hs : swapsWithSole [.Subscript (.Name x npos) b spos] a pos.line X.env = pure false := by rfl) (hw : swappedStores [.Subscript (.Name x npos) b spos] a X.env = pure none := by rfl)
    (h1 : (assignEach [.Subscript (.Name x npos) b spos] X.env).map (·.2) = [assign (.Subscript (.Name x npos) b spos) X.env] := by rfl) : Sv X R pr (.Assign [.Subscript (.Name x npos) b spos] a pos) (sSetIx i fa fb) := by
  have key : ∀ {ρ ρ' : List Sl} {fl : Fl}, sSetIx i fa fb ρ = some (fl, ρ') → ∃ r1 ρ1 p ρ2 j xs m xs0, fa ρ = some (r1, ρ1) ∧ valOf r1 = some p ∧ ρ1[i]? = some (.own xs0) ∧ fb ρ1 = some (.fz (.int j), ρ2) ∧ ρ2[i]? = some (.own xs) ∧ ixN xs.length j = some m ∧ fl = .nx ∧ ρ' = ρ2.set i (.own (xs.set m p)) := by
    intro ρ ρ' r q
    unfold sSetIx at q
    rw [Option.bind_eq_some_iff] at q
    obtain ⟨⟨r1, ρ1⟩, h1, q⟩ := q
    rw [Option.bind_eq_some_iff] at q
    obtain ⟨p, h2, q⟩ := q
    split at q
    · rename_i xs0 g0
      rw [Option.bind_eq_some_iff] at q
      obtain ⟨⟨r2, ρ2⟩, h3, q⟩ := q
      split at q
      · rename_i j xs e1 e2
        rw [Option.map_eq_some_iff] at q
        obtain ⟨m, h4, q⟩ := q
        cases q
        dsimp only at e1
        subst e1
        exact ⟨r1, ρ1, p, ρ2, j, xs, m, xs0, h1, h2, g0, h3, e2, h4, rfl, rfl⟩
      · cases q
    · cases q
  refine ⟨fun ρ r ρ' q => ?_, ps_mono (ps_asg h.pe (pg_sub (pe_var hN hv hd hcd) hi.pe set_list ha) hs hw h1) fun D σ H q => ?_⟩
  · obtain ⟨r1, ρ1, p, ρ2, j, xs, m, xs0, h1, h2, _, h3, _, _, _, rfl⟩ := key q
    rw [List.length_set]; exact (hi.len _ _ _ h3).trans (h.len _ _ _ h1)
  · obtain ⟨e, F, ρ, tm, fl, ρ', hl, hB, hf, k⟩ := q
    obtain ⟨r1, ρ1, p, ρ2, j, xs, m, xs0, h1, h2, g0, h3, h4, h5, rfl, rfl⟩ := key hf
    have l1 := h.len _ _ _ h1
    have l2 := hi.len _ _ _ h3
    refine ⟨e, F, ρ, tm, r1, ρ1, hl, hB, h1, fun y H1 F1 B1 _ => ?_⟩
    obtain ⟨F2, s2, B2, rp⟩ := B1.val h2
    have B2' := B2.push_fz rp
    rw [List.append_assoc] at B2'
    obtain ⟨a0, vs0, hv', _⟩ := slot_own B2 (by omega) g0
    refine ⟨.ref a0, hv', e, F2, ρ1, _, _, ρ2, by omega, B2', h3, fun z H3 F3 B3 _ => ?_⟩
    have ez := (B3.rq_fz (x := z) (p := .int j) app_last).int
    have B4 := B3.pop
    obtain ⟨b', vs, s1, _, hF, hH, hr⟩ := slot_own B4 (by omega) h4
    rw [hv'] at s1
    cases s1
    refine ⟨a0, vs, j, m, rfl, ez, hH, by rw [← hr.length]; exact h5, ?_⟩
    obtain ⟨y2, ey, rp3⟩ := B4.all (ρ2.zip σ ++ tm).length _ _ (by rw [← List.append_assoc]; exact app_last)
    cases ey
    have B5 := B4.wslot (by omega) h4 hv' hF (hr.set (i := m) rp3)
    rw [← List.append_assoc] at B5
    exact k σ _ F3 rfl (fun _ _ => rfl) B5.pop
end
end PL
set_option Elab.async false
set_option linter.all false
set_option maxRecDepth 100000
set_option maxHeartbeats 4000000
/-! PLi: for, while, comprehensions. -/
namespace PL
open PySem PySem.Spec PyProof.Rows L2

/-- what is walked: its items, what is held meanwhile -/
abbrev PIF := List Sl → Option (List PV × List Sl × List Sl)
/-- the walk J gives these items while the held things are there -/
def WkOk (R : RE) (J : It) (items : List PV) (tI : Bg) : Prop := ∀ (e : En) (F H : Hp) (B : Bg) (i : Nat), Bag R e F H (B ++ tI) →
  (i < items.length → J.go i H ∧ ∀ x H', J.yld i H x H' → ∃ p F2, items[i]? = some p ∧ Bag R e F2 H' (B ++ tI) ∧ Rp R F2 p x) ∧ (i = items.length → J.stop i H)
def TIv (R : RE) (w : PIF) : TI := fun σ H Rr => ∃ (e : En) (F : Hp) (ρ : List Sl) (tm : Bg) (items : List PV) (rs : List Sl) (ρ' : List Sl), ρ.length = σ.length ∧ Bag R e F H (ρ.zip σ ++ tm) ∧ w ρ = some (items, rs, ρ') ∧
  ∀ J H' F' xs, Bag R e F' H' (ρ'.zip σ ++ tm ++ (rs.map tmpOf).zip (xs.map some)) → Paired (fun r x => PkOk r σ x) rs xs → WkOk R J items ((rs.map tmpOf).zip (xs.map some)) → items.length ≤ sizeLine → Rr J H'
structure Iv (X : Cx) (R : RE) (tg iter : Expr) (w : PIF) : Prop where
  len : ∀ ρ a b ρ', w ρ = some (a, b, ρ') → ρ'.length = ρ.length
  pi : PI X tg iter (TIv R w)

/-! ### for -/
def forP (g : PGF) (body : PSF) : List PV → PSF
  | [], ρ => some (.nx, ρ)
  | p :: ps, ρ => (g p ρ).bind fun ρ1 => (body ρ1).bind fun x => match x.1 with
    | .nx => forP g body ps x.2
    | .ct => forP g body ps x.2
    | .bk => some (.nx, x.2)
    | .rt v => some (.rt v, x.2)
def sFor (w : PIF) (g : PGF) (body : PSF) : PSF := fun ρ => (w ρ).bind fun x => forP g body x.1 x.2.2
section
variable {X : Cx} {R : RE} {pr ws : List Nat} {tg iter : Expr} {w : PIF} {g : PGF} {f : PSF} {body : List Stmt} {pos : Pos}
theorem forP_len (lg : ∀ p ρ ρ', g p ρ = some ρ' → ρ'.length = ρ.length) (lf : ∀ ρ r ρ', f ρ = some (r, ρ') → ρ'.length = ρ.length) : ∀ (items : List PV) (ρ : List Sl) (fl : Fl) (ρ' : List Sl), forP g f items ρ = some (fl, ρ') → ρ'.length = ρ.length
  | [], ρ, fl, ρ', h => by cases h; rfl
  | p :: ps, ρ, fl, ρ', h => by
    unfold forP at h
    rw [Option.bind_eq_some_iff] at h
    obtain ⟨ρ1, h1, h⟩ := h
    rw [Option.bind_eq_some_iff] at h
    obtain ⟨⟨fb, ρ2⟩, h2, h⟩ := h
    have l := (lf _ _ _ h2).trans (lg _ _ _ h1)
    cases fb with
    | nx => exact (forP_len lg lf ps _ _ _ h).trans l
    | ct => exact (forP_len lg lf ps _ _ _ h).trans l
    | bk => cases h; exact l
    | rt v => cases h; exact l
theorem sub_tm {B tm tI C : Bg} : (B ++ tm ++ C).Sublist (B ++ (tm ++ tI) ++ C) := by
  refine List.Sublist.append ?_ (List.Sublist.refl C)
  rw [← List.append_assoc]
  exact List.sublist_append_left _ _
theorem sv_for (hp : PassesOwn (model X.prog X.w) X.A X.env X.xe) (hc : X.calm = true) (hw : Iv X R tg iter w) (hg : Gv X R tg ws g) (hb : SSv X R pr body f) (hpr : ∀ i ∈ pr, i ∉ ws) (hs : ∀ x, foldedSetIterable iter X.env x = pure x := by intro _; rfl) :
    Sv X R pr (.For tg iter body [] pos) (sFor w g f) := by
  refine ⟨fun ρ r ρ' h => ?_, ps_mono (ps_for hp hc hw.pi hg.pg hb.ps hs) fun D σ H h => ?_⟩
  · unfold sFor at h
    rw [Option.bind_eq_some_iff] at h
    obtain ⟨⟨items, rs, ρ1⟩, h1, h⟩ := h
    exact (forP_len hg.len hb.len _ _ _ _ h).trans (hw.len _ _ _ _ h1)
  · obtain ⟨e, F, ρ, tm, fl, ρ', hl, hB, hf, k⟩ := h
    unfold sFor at hf
    rw [Option.bind_eq_some_iff] at hf
    obtain ⟨⟨items, rs, ρ1⟩, h1, hf⟩ := hf
    have l1 := hw.len _ _ _ _ h1
    refine ⟨e, F, ρ, tm, items, rs, ρ1, hl, hB, h1, fun J H1 F1 xs B1 k1 wk _ => ?_⟩
    generalize htI : (rs.map tmpOf).zip (xs.map some) = tI at B1 wk
    refine ⟨fun i m σ1 H1 => m = items.length - i ∧ i ≤ items.length ∧ ∃ F1 ρ1, ρ1.length = σ1.length ∧ σ1.length = σ.length ∧ (∀ j ∈ pr, σ1[j]? = σ[j]?) ∧ Bag R e F1 H1 (ρ1.zip σ1 ++ tm ++ tI) ∧ forP g f (items.drop i) ρ1 = some (fl, ρ'), ⟨_, rfl, Nat.zero_le _, F1, ρ1, by omega, rfl, fun _ _ => rfl, B1, by simpa using hf⟩, ?_⟩
    rintro i m σ2 H2 ⟨rfl, hi, F2, ρ2, l2, l2', p2, B2, h2⟩
    obtain ⟨wgo, wstop⟩ := wk e F2 H2 _ i B2
    by_cases hlt : i < items.length
    · obtain ⟨go, yl⟩ := wgo hlt
      have ed : items.drop i = items[i] :: items.drop (i + 1) := by rw [List.drop_eq_getElem_cons hlt]
      rw [ed] at h2
      unfold forP at h2
      rw [Option.bind_eq_some_iff] at h2
      obtain ⟨ρ3, g3, h2⟩ := h2
      rw [Option.bind_eq_some_iff] at h2
      obtain ⟨⟨fb, ρ4⟩, g4, h2⟩ := h2
      have l3 := hg.len _ _ _ g3
      have l4 := hb.len _ _ _ g4
      refine .inr ⟨go, fun σ' H' => ∃ F1 ρ1, ρ1.length = σ'.length ∧ σ'.length = σ.length ∧ (∀ j ∈ pr, σ'[j]? = σ[j]?) ∧ Bag R e F1 H' (ρ1.zip σ' ++ tm ++ tI) ∧ forP g f (items.drop (i + 1)) ρ1 = some (fl, ρ'), fun σ' H' hN => ⟨items.length - (i + 1), by omega, rfl, by omega, hN⟩, fun x H' y => ?_⟩
      obtain ⟨p, F3, ep, B3, rp⟩ := yl x H' y
      have ep' : p = items[i] := by rw [List.getElem?_eq_getElem hlt] at ep; cases ep; rfl
      subst ep'
      rw [List.append_assoc] at B3
      refine ⟨e, F3, ρ2, tm ++ tI, _, ρ3, l2, B3, rp, g3, fun σ3 ls3 ks3 B4 => ?_⟩
      refine ⟨e, F3, ρ3, tm ++ tI, fb, ρ4, by omega, B4, g4, fun σ4 H4 F4 ls4 ks4 => ?_⟩
      have prk : ∀ j ∈ pr, σ4[j]? = σ[j]? := fun j hj => by rw [ks4 j hj, ks3 j (hpr j hj), p2 j hj]
      have again : forP g f (items.drop (i + 1)) ρ4 = some (fl, ρ') → Bag R e F4 H4 (ρ4.zip σ4 ++ (tm ++ tI)) → ∃ F1 ρ1, ρ1.length = σ4.length ∧ σ4.length = σ.length ∧ (∀ j ∈ pr, σ4[j]? = σ[j]?) ∧ Bag R e F1 H4 (ρ1.zip σ4 ++ tm ++ tI) ∧ forP g f (items.drop (i + 1)) ρ1 = some (fl, ρ') := fun h5 B5 =>
        ⟨F4, ρ4, by omega, by omega, prk, by rw [List.append_assoc]; exact B5, h5⟩
      cases fb with
      | nx => exact again h2
      | ct => exact again h2
      | bk =>
        cases h2
        intro B5
        refine k σ4 H4 F4 (by omega) prk ?_
        rw [← List.append_assoc] at B5
        exact B5.sublist (List.sublist_append_left _ _)
      | rt v =>
        cases h2
        intro x5 B5
        exact k σ4 H4 F4 (by omega) prk x5 (B5.sublist sub_tm)
    · have ei : i = items.length := by omega
      rw [ei, List.drop_length] at h2
      cases h2
      refine .inl ⟨wstop ei, ?_⟩
      refine k σ2 H2 F2 l2' p2 ?_
      exact B2.sublist (List.sublist_append_left _ _)
end

/-! ### while -/
def wNext (k : PSF) (x : Fl × List Sl) : Option (Fl × List Sl) := match x.1 with
  | .nx => k x.2
  | .ct => k x.2
  | .bk => some (.nx, x.2)
  | .rt v => some (.rt v, x.2)
theorem wNext_mono {k k' : PSF} {x : Fl × List Sl} {r : Fl × List Sl} (h : ∀ ρ r, k ρ = some r → k' ρ = some r) (q : wNext k x = some r) : wNext k' x = some r := by
  obtain ⟨fb, ρ⟩ := x
  cases fb with
  | nx => exact h _ _ q
  | ct => exact h _ _ q
  | bk => exact q
  | rt v => exact q
def whileN (g : PT') (body : PSF) : Nat → PSF
  | 0 => fun _ => none
  | n + 1 => fun ρ => (g ρ).bind fun c => if c.1 = true then (body c.2).bind (wNext (whileN g body n)) else some (.nx, c.2)
open Classical in
noncomputable def sWhile (g : PT') (body : PSF) : PSF := fun ρ => if h : ∃ n r, whileN g body n ρ = some r then whileN g body h.choose ρ else none
theorem while_step {g : PT'} {f k k' : PSF} {ρ : List Sl} {r : Fl × List Sl} (m : ∀ ρ r, k ρ = some r → k' ρ = some r) (h : ((g ρ).bind fun c => if c.1 = true then (f c.2).bind (wNext k) else some (.nx, c.2)) = some r) : ((g ρ).bind fun c => if c.1 = true then (f c.2).bind (wNext k') else some (.nx, c.2)) = some r := by
  rw [Option.bind_eq_some_iff] at h ⊢
  obtain ⟨⟨c, ρ1⟩, h1, h⟩ := h
  refine ⟨(c, ρ1), h1, ?_⟩
  cases c with
  | false => exact h
  | true =>
    rw [if_pos rfl] at h ⊢
    rw [Option.bind_eq_some_iff] at h ⊢
    obtain ⟨x, h2, h⟩ := h
    exact ⟨x, h2, wNext_mono m h⟩
theorem whileN_mono {g : PT'} {f : PSF} : ∀ {n : Nat} {ρ : List Sl} {r : Fl × List Sl}, whileN g f n ρ = some r → ∀ m, n ≤ m → whileN g f m ρ = some r
  | 0, _, _, h, _, _ => by cases h
  | n + 1, ρ, r, h, 0, hm => by omega
  | n + 1, ρ, r, h, m + 1, hm => while_step (fun ρ r q => whileN_mono q m (by omega)) h
theorem sWhile_iff {g : PT'} {f : PSF} {ρ : List Sl} {r : Fl × List Sl} : sWhile g f ρ = some r ↔ ∃ n, whileN g f n ρ = some r := by
  constructor
  · intro h
    unfold sWhile at h
    split at h
    · exact ⟨_, h⟩
    · cases h
  · rintro ⟨n, h⟩
    have ex : ∃ n r, whileN g f n ρ = some r := ⟨n, r, h⟩
    unfold sWhile
    rw [dif_pos ex]
    obtain ⟨r', hr'⟩ := ex.choose_spec
    have h1 := whileN_mono hr' (max ex.choose n) (by omega)
    have h2 := whileN_mono h (max ex.choose n) (by omega)
    rw [h1] at h2
    cases h2
    exact hr'
/-- one turn more -/
theorem sWhile_eq {g : PT'} {f : PSF} {ρ : List Sl} : sWhile g f ρ = (g ρ).bind fun c => if c.1 = true then (f c.2).bind (wNext (sWhile g f)) else some (.nx, c.2) := by
  have key : ∀ r, sWhile g f ρ = some r ↔ ((g ρ).bind fun c => if c.1 = true then (f c.2).bind (wNext (sWhile g f)) else some (.nx, c.2)) = some r := by
    intro r
    rw [sWhile_iff]
    constructor
    · rintro ⟨n, h⟩
      cases n with
      | zero => cases h
      | succ n => exact while_step (fun ρ r q => sWhile_iff.mpr ⟨n, q⟩) h
    · intro h
      have hq := h
      rw [Option.bind_eq_some_iff] at h
      obtain ⟨⟨c, ρ1⟩, h1, h⟩ := h
      have goal : ∀ n, ((g ρ).bind fun c => if c.1 = true then (f c.2).bind (wNext (whileN g f n)) else some (.nx, c.2)) = some r → ∃ n, whileN g f n ρ = some r := fun n q => ⟨n + 1, q⟩
      cases c with
      | false => exact goal 0 (by rw [h1]; exact h)
      | true =>
        rw [if_pos rfl] at h
        rw [Option.bind_eq_some_iff] at h
        obtain ⟨⟨fb, ρ2⟩, h2, h⟩ := h
        dsimp only at h2
        have fin : ∀ n, wNext (whileN g f n) (fb, ρ2) = some r → ∃ n, whileN g f n ρ = some r := fun n q => goal n (by
          rw [h1]
          show (f ρ1).bind (wNext (whileN g f n)) = some r
          rw [h2]
          exact q)
        cases fb with
        | nx => obtain ⟨n, hn⟩ := sWhile_iff.mp h; exact fin n hn
        | ct => obtain ⟨n, hn⟩ := sWhile_iff.mp h; exact fin n hn
        | bk => exact fin 0 h
        | rt v => exact fin 0 h
  cases q : sWhile g f ρ with
  | some r => exact ((key r).mp q).symm
  | none =>
    cases q2 : ((g ρ).bind fun c => if c.1 = true then (f c.2).bind (wNext (sWhile g f)) else some (.nx, c.2)) with
    | none => rfl
    | some r => rw [(key r).mpr q2] at q; cases q
section
variable {X : Cx} {R : RE} {pr : List Nat} {c : Expr} {g : PT'} {f : PSF} {body : List Stmt} {pos : Pos}
theorem whileN_len (lg : ∀ ρ r ρ', g ρ = some (r, ρ') → ρ'.length = ρ.length) (lf : ∀ ρ r ρ', f ρ = some (r, ρ') → ρ'.length = ρ.length) : ∀ (n : Nat) (ρ : List Sl) (fl : Fl) (ρ' : List Sl), whileN g f n ρ = some (fl, ρ') → ρ'.length = ρ.length
  | 0, _, _, _, h => by cases h
  | n + 1, ρ, fl, ρ', h => by
    unfold whileN at h
    rw [Option.bind_eq_some_iff] at h
    obtain ⟨⟨b, ρ1⟩, h1, h⟩ := h
    have l1 := lg _ _ _ h1
    cases b with
    | false => rw [if_neg Bool.false_ne_true] at h; cases h; exact l1
    | true =>
      rw [if_pos rfl] at h
      rw [Option.bind_eq_some_iff] at h
      obtain ⟨⟨fb, ρ2⟩, h2, h⟩ := h
      have l : ρ2.length = ρ.length := (lf _ _ _ h2).trans l1
      cases fb with
      | nx => exact (whileN_len lg lf n _ _ _ h).trans l
      | ct => exact (whileN_len lg lf n _ _ _ h).trans l
      | bk => cases h; exact l
      | rt v => cases h; exact l
theorem sv_while (hp : PassesOwn (model X.prog X.w) X.A X.env X.xe) (hc : Tv X R c g) (hb : SSv X R pr body f) : Sv X R pr (.While c body [] pos) (sWhile g f) := by
  refine ⟨fun ρ r ρ' h => ?_, ps_mono (ps_while hp hc.pt hb.ps) fun D σ H h => ?_⟩
  · obtain ⟨n, h⟩ := sWhile_iff.mp h
    exact whileN_len hc.len hb.len n _ _ _ h
  · obtain ⟨e, F, ρ, tm, fl, ρ', hl, hB, hf, k⟩ := h
    obtain ⟨n, hf⟩ := sWhile_iff.mp hf
    refine ⟨fun m σ1 H1 => ∃ F1 ρ1, ρ1.length = σ1.length ∧ σ1.length = σ.length ∧ (∀ j ∈ pr, σ1[j]? = σ[j]?) ∧ Bag R e F1 H1 (ρ1.zip σ1 ++ tm) ∧ whileN g f m ρ1 = some (fl, ρ'), ⟨n, F, ρ, hl, rfl, fun _ _ => rfl, hB, hf⟩, ?_⟩
    rintro m σ1 H1 ⟨F1, ρ1, l1, l1', p1, B1, h1⟩
    cases m with
    | zero => cases h1
    | succ m =>
      unfold whileN at h1
      rw [Option.bind_eq_some_iff] at h1
      obtain ⟨⟨b, ρ2⟩, h2, h1⟩ := h1
      refine ⟨e, F1, ρ1, tm, b, ρ2, l1, B1, h2, fun H2 F2 B2 => ?_⟩
      have l2 := hc.len _ _ _ h2
      cases b with
      | false =>
        refine iteF ?_
        rw [if_neg Bool.false_ne_true] at h1
        cases h1
        exact k σ1 H2 F2 l1' p1 B2
      | true =>
        refine iteT ?_
        rw [if_pos rfl] at h1
        rw [Option.bind_eq_some_iff] at h1
        obtain ⟨⟨fb, ρ3⟩, h3, h1⟩ := h1
        have l3 := hb.len _ _ _ h3
        dsimp only at l3
        refine ⟨fun σ' H' => ∃ F1 ρ1, ρ1.length = σ'.length ∧ σ'.length = σ.length ∧ (∀ j ∈ pr, σ'[j]? = σ[j]?) ∧ Bag R e F1 H' (ρ1.zip σ' ++ tm) ∧ whileN g f m ρ1 = some (fl, ρ'), fun σ' H' hN => ⟨m, Nat.lt_succ_self _, hN⟩, ?_⟩
        refine ⟨e, F2, ρ2, tm, fb, ρ3, by omega, B2, h3, fun σ4 H4 F4 ls4 ks4 => ?_⟩
        have prk : ∀ j ∈ pr, σ4[j]? = σ[j]? := fun j hj => by rw [ks4 j hj, p1 j hj]
        cases fb with
        | nx => exact fun B5 => ⟨F4, ρ3, by omega, by omega, prk, B5, h1⟩
        | ct => exact fun B5 => ⟨F4, ρ3, by omega, by omega, prk, B5, h1⟩
        | bk => cases h1; exact fun B5 => k σ4 H4 F4 (by omega) prk B5
        | rt v => cases h1; exact fun x B5 => k σ4 H4 F4 (by omega) prk x B5
end

/-! ### list comprehensions -/
structure Tsv (X : Cx) (R : RE) (ifs : List Expr) (f : PT') : Prop where
  len : ∀ ρ r ρ', f ρ = some (r, ρ') → ρ'.length = ρ.length
  pts : PTs X ifs (TTv R f)
def tTrue : PT' := fun ρ => some (true, ρ)
section
variable {X : Cx} {R : RE} {c : Expr} {g : PT'} {ifs : List Expr}
theorem pts_mono {t t' : TT} (h : PTs X ifs t) (m : ∀ σ H Q, t' σ H Q → t σ H Q) : PTs X ifs t' := ⟨fun pins s σ H Q I q => h.run pins s σ H Q I (m σ H Q q)⟩
theorem tsv_nil : Tsv X R [] tTrue := ⟨fun ρ r ρ' h => by cases h; rfl, pts_mono pts_nil fun σ H Q h => by
  obtain ⟨e, F, ρ, tm, b, ρ', hl, hB, hf, k⟩ := h
  cases hf
  exact k H F hB⟩
theorem tsv_one (h : Tv X R c g) : Tsv X R [c] g := ⟨h.len, pts_one h.pt⟩
end
def wipeS (ρ : List Sl) : List Nat → List Sl
  | [] => ρ
  | v :: vs => (wipeS ρ vs).set v .un
theorem wipeS_len (ρ : List Sl) : ∀ vs : List Nat, (wipeS ρ vs).length = ρ.length
  | [] => rfl
  | v :: vs => by unfold wipeS; rw [List.length_set, wipeS_len ρ vs]
/-- the contents of the own names come back -/
def backS (ρ : List Sl) : List Nat → List Sl → List Sl
  | v :: vs, s :: ss => (backS ρ vs ss).set v s
  | _, _ => ρ
theorem backS_len (ρ : List Sl) : ∀ (vs : List Nat) (ss : List Sl), (backS ρ vs ss).length = ρ.length
  | [], _ => by unfold backS; rfl
  | v :: vs, [] => by unfold backS; rfl
  | v :: vs, s :: ss => by unfold backS; rw [List.length_set, backS_len ρ vs ss]
def keepS (ρ : List Sl) (vs : List Nat) : List Sl := vs.map fun v => (ρ[v]?).getD .un
def lcP (vs : List Nat) (g : PGF) (tt : PT') (fe : PF) : List PV → List Sl → Option (List PV × List Sl)
  | [], ρ => some ([], ρ)
  | p :: ps, ρ => (g p (wipeS ρ vs)).bind fun ρ1 => (tt ρ1).bind fun b => if b.1 = true then (fe b.2).bind fun x => (valOf x.1).bind fun q => (lcP vs g tt fe ps x.2).map fun r => (q :: r.1, r.2)
    else lcP vs g tt fe ps b.2
def eLc (w : PIF) (vs : List Nat) (g : PGF) (tt : PT') (fe : PF) : PF := fun ρ => (w ρ).bind fun x => (lcP vs g tt fe x.1 x.2.2).map fun r =>
  (.own r.1, putB x.2.1 (x.2.1.map tmpOf) (backS r.2 vs (keepS x.2.2 vs)))
section
variable {R : RE} {e : En} {F H : Hp} {B C : Bg}
/-- a content taken out of its place -/
theorem Bag.out {v : Nat} {s : Sl} {o : Option V} (h : Bag R e F H (B ++ C)) (g : B[v]? = some (s, o)) : Bag R e F H (B.set v (.un, none) ++ (s, o) :: C) := by
  have hv := (List.getElem?_eq_some_iff.mp g).1
  have eB : B = B.take v ++ (s, o) :: B.drop (v + 1) := by
    have h1 : B[v] = (s, o) := (List.getElem?_eq_some_iff.mp g).2
    rw [← h1, ← List.drop_eq_getElem_cons hv, List.take_append_drop]
  have eS : B.set v (.un, none) = B.take v ++ (.un, none) :: B.drop (v + 1) := by
    rw [List.set_eq_take_append_cons_drop, if_pos hv]
  have h1 : Bag R e F H (B ++ C ++ [(.un, none)]) := h.push_un
  refine h1.perm ?_
  rw [eS]
  have p1 : (B ++ C ++ [((Sl.un, none) : Sl × Option V)]).Perm ((B.take v ++ (s, o) :: B.drop (v + 1)) ++ C ++ [((Sl.un, none) : Sl × Option V)]) := by rw [← eB]
  refine p1.trans ?_
  have : ∀ (A D : Bg) (p q : Sl × Option V), ((A ++ p :: D) ++ C ++ [q]).Perm ((A ++ q :: D) ++ p :: C) := by
    intro A D p q
    simp only [List.append_assoc]
    refine (List.Perm.refl A).append ?_
    have e1 : (p :: D ++ (C ++ [q])).Perm (p :: (q :: (D ++ C))) := by
      rw [List.cons_append, ← List.append_assoc]
      exact (List.perm_append_singleton q (D ++ C)).cons p
    have e2 : (q :: D ++ p :: C).Perm (q :: (p :: (D ++ C))) := by
      rw [List.cons_append]
      exact List.perm_middle.cons q
    exact e1.trans ((List.Perm.swap q p _).trans e2.symm)
  exact this _ _ _ _
theorem wipeS_out {ρ : List Sl} {v : Nat} : ∀ {vs : List Nat}, v ∉ vs → (wipeS ρ vs)[v]? = ρ[v]?
  | [], _ => rfl
  | u :: vs, h => by
    unfold wipeS
    rw [List.getElem?_set_ne fun z => h (by rw [z]; exact List.mem_cons_self), wipeS_out fun z => h (List.mem_cons_of_mem _ z)]
/-- the own names' contents are laid aside -/
theorem Bag.aside {ρ : List Sl} {σ : L2.St} : ∀ {vs : List Nat}, vs.Nodup → ρ.length = σ.length → Bag R e F H (ρ.zip σ ++ C) → Bag R e F H ((wipeS ρ vs).zip (wipe σ vs) ++ ((keepS ρ vs).zip (vs.map fun v => (σ[v]?).getD none) ++ C))
  | [], _, _, h => h
  | v :: vs, nd, hl, h => by
    rw [List.nodup_cons] at nd
    have h1 := Bag.aside (vs := vs) nd.2 hl h
    have el : (wipeS ρ vs).length = (wipe σ vs).length := by rw [wipeS_len, wipe_length]; exact hl
    show Bag R e F H (((wipeS ρ vs).set v .un).zip ((wipe σ vs).set v none) ++ (((ρ[v]?).getD .un :: keepS ρ vs).zip ((σ[v]?).getD none :: vs.map fun v => (σ[v]?).getD none) ++ C))
    rw [List.zip_cons_cons, List.cons_append, zip_set2 el]
    by_cases hv : v < ρ.length
    · have g1 : (wipeS ρ vs)[v]? = some ((ρ[v]?).getD .un) := by
        rw [wipeS_out nd.1, List.getElem?_eq_getElem hv]; rfl
      have g2 : (wipe σ vs)[v]? = some ((σ[v]?).getD none) := by
        rw [wipe_out nd.1, List.getElem?_eq_getElem (by omega)]; rfl
      exact h1.out (zip_get g1 g2)
    · rw [List.set_eq_of_length_le (by rw [List.length_zip, wipeS_len, wipe_length]; omega), List.getElem?_eq_none (by omega)]
      have h2 : Bag R e F H ((wipeS ρ vs).zip (wipe σ vs) ++ ((keepS ρ vs).zip (vs.map fun v => (σ[v]?).getD none) ++ C) ++ [(.un, (σ[v]?).getD none)]) := h1.push_un
      refine h2.perm ?_
      rw [List.append_assoc]
      exact (List.Perm.refl _).append (List.perm_append_singleton _ _)
/-- .. and come back -/
theorem Bag.backs {ρ : List Sl} {σ : L2.St} : ∀ {vs : List Nat} {ss : List Sl}, vs.Nodup → ss.length = vs.length → ρ.length = σ.length → Bag R e F H (ρ.zip (wipe σ vs) ++ (ss.zip (vs.map fun v => (σ[v]?).getD none) ++ C)) → Bag R e F H ((backS ρ vs ss).zip σ ++ C)
  | [], [], _, _, _, h => h
  | [], _ :: _, _, l, _, _ => by cases l
  | v :: vs, [], _, l, _, _ => by cases l
  | v :: vs, s :: ss, nd, l, hl, h => by
    rw [List.nodup_cons] at nd
    have e1 : (s :: ss).zip ((v :: vs).map fun v => (σ[v]?).getD none) = (s, (σ[v]?).getD none) :: ss.zip (vs.map fun v => (σ[v]?).getD none) := rfl
    rw [e1, List.cons_append] at h
    have el : ρ.length = (wipe σ (v :: vs)).length := by rw [wipe_length]; exact hl
    -- slot v first: it is not among the others
    have h1 : Bag R e F H ((ρ.set v s).zip ((wipe σ (v :: vs)).set v ((σ[v]?).getD none)) ++ (ss.zip (vs.map fun v => (σ[v]?).getD none) ++ C)) := by
      have h0 : Bag R e F H (ρ.zip (wipe σ (v :: vs)) ++ [] ++ (s, (σ[v]?).getD none) :: (ss.zip (vs.map fun v => (σ[v]?).getD none) ++ C)) := by rw [List.append_nil]; exact h
      have := Bag.slot (i := v) h0 el
      rw [List.append_nil] at this
      exact this
    have e2 : (wipe σ (v :: vs)).set v ((σ[v]?).getD none) = wipe σ vs := by
      show ((wipe σ vs).set v none).set v _ = _
      rw [List.set_set]
      by_cases hv : v < σ.length
      · apply List.ext_getElem?
        intro j
        by_cases z : v = j
        · subst z
          rw [List.getElem?_set_self (by rw [wipe_length]; exact hv), wipe_out nd.1, List.getElem?_eq_getElem hv]; rfl
        · rw [List.getElem?_set_ne z]
      · rw [List.set_eq_of_length_le (by rw [wipe_length]; omega)]
    rw [e2] at h1
    have h2 := Bag.backs (ρ := ρ.set v s) (vs := vs) (ss := ss) nd.2 (by simpa using l) (by rw [List.length_set]; exact hl) h1
    have e3 : backS (ρ.set v s) vs ss = (backS ρ vs ss).set v s := by
      clear h2 h1 h e1
      have : ∀ (vs : List Nat) (ss : List Sl) (ρ : List Sl), v ∉ vs → backS (ρ.set v s) vs ss = (backS ρ vs ss).set v s := by
        intro vs
        induction vs with
        | nil => intro ss ρ _; unfold backS; rfl
        | cons u vs ih =>
          intro ss ρ hu
          cases ss with
          | nil => unfold backS; rfl
          | cons t ss =>
            unfold backS
            rw [ih ss ρ fun z => hu (List.mem_cons_of_mem _ z), List.set_comm _ _ fun z => hu (by rw [z]; exact List.mem_cons_self)]
      exact this vs ss ρ nd.1
    rw [e3] at h2
    unfold backS
    exact h2
/-- the block's slots for the next turn -/
theorem Bag.again {ρ : List Sl} {σ σ2 : L2.St} {vs : List Nat} (h : Bag R e F H (ρ.zip σ2 ++ C)) (hl : ρ.length = σ2.length) (hw : wipe σ2 vs = wipe σ vs) : Bag R e F H ((wipeS ρ vs).zip (wipe σ vs) ++ C) := by
  rw [← hw]
  clear hw
  induction vs with
  | nil => exact h
  | cons v vs ih =>
    have el : (wipeS ρ vs).length = (wipe σ2 vs).length := by rw [wipeS_len, wipe_length]; exact hl
    show Bag R e F H (((wipeS ρ vs).set v .un).zip ((wipe σ2 vs).set v none) ++ C)
    rw [zip_set2 el]
    refine ih.repl fun i p q => ?_
    by_cases hv : v < ((wipeS ρ vs).zip (wipe σ2 vs)).length
    · rw [← List.set_append_left _ _ hv] at q
      by_cases z : v = i
      · subst z
        rw [List.getElem?_set_self (by rw [List.length_append]; omega)] at q
        cases q
        exact .inr ⟨rfl, trivial⟩
      · rw [List.getElem?_set_ne z] at q
        exact .inl q
    · rw [List.set_eq_of_length_le (by omega)] at q
      exact .inl q
end
theorem wipe_same {σ σ2 : L2.St} {vs ws : List Nat} (l : σ2.length = σ.length) (h : ∀ j, j ∉ ws → σ2[j]? = (wipe σ vs)[j]?) (hs : ∀ j ∈ ws, j ∈ vs) : wipe σ2 vs = wipe σ vs := by
  have inn : ∀ {σ : L2.St} {vs : List Nat} {j : Nat}, j ∈ vs → j < σ.length → (wipe σ vs)[j]? = some none := by
    intro σ vs
    induction vs with
    | nil => intro j h; cases h
    | cons v vs ih =>
      intro j hj hl
      unfold wipe
      by_cases z : v = j
      · subst z
        rw [List.getElem?_set_self (by rw [wipe_length]; exact hl)]
      · rw [List.getElem?_set_ne z]
        rcases List.mem_cons.mp hj with y | y
        · exact absurd y.symm z
        · exact ih y hl
  apply List.ext_getElem?
  intro j
  by_cases hj : j ∈ vs
  · by_cases hl : j < σ.length
    · rw [inn hj hl, inn hj (by omega)]
    · rw [List.getElem?_eq_none (by rw [wipe_length]; omega), List.getElem?_eq_none (by rw [wipe_length]; omega)]
  · rw [wipe_out hj, h j fun z => hj (hs j z)]
section
variable {X : Cx} {R : RE} {tg iter elt : Expr} {ifs : List Expr} {w : PIF} {vs ws : List Nat} {g : PGF} {tt : PT'} {fe : PF} {pos : Pos} {scope : Scope} {own : List (Str × Nat)}
theorem lcP_len (lg : ∀ p ρ ρ', g p ρ = some ρ' → ρ'.length = ρ.length) (lt : ∀ ρ r ρ', tt ρ = some (r, ρ') → ρ'.length = ρ.length) (le : ∀ ρ r ρ', fe ρ = some (r, ρ') → ρ'.length = ρ.length) : ∀ (items : List PV) (ρ : List Sl) (zs : List PV) (ρ' : List Sl), lcP vs g tt fe items ρ = some (zs, ρ') → ρ'.length = ρ.length ∧ zs.length ≤ items.length
  | [], ρ, zs, ρ', h => by cases h; exact ⟨rfl, Nat.le_refl _⟩
  | p :: ps, ρ, zs, ρ', h => by
    unfold lcP at h
    rw [Option.bind_eq_some_iff] at h
    obtain ⟨ρ1, h1, h⟩ := h
    rw [Option.bind_eq_some_iff] at h
    obtain ⟨⟨b, ρ2⟩, h2, h⟩ := h
    have l1 := (lt _ _ _ h2).trans ((lg _ _ _ h1).trans (wipeS_len _ _))
    cases b with
    | false =>
      rw [if_neg Bool.false_ne_true] at h
      have := lcP_len lg lt le ps _ _ _ h
      exact ⟨this.1.trans l1, by rw [List.length_cons]; omega⟩
    | true =>
      rw [if_pos rfl] at h
      rw [Option.bind_eq_some_iff] at h
      obtain ⟨⟨r, ρ3⟩, h3, h⟩ := h
      rw [Option.bind_eq_some_iff] at h
      obtain ⟨q, _, h⟩ := h
      rw [Option.map_eq_some_iff] at h
      obtain ⟨⟨zs', ρ4⟩, h5, h⟩ := h
      cases h
      have h6 := lcP_len lg lt le ps _ _ _ h5
      have l3 := le _ _ _ h3
      dsimp only at h6 l3
      refine ⟨h6.1.trans (l3.trans l1), ?_⟩
      show (q :: zs').length ≤ (p :: ps).length
      rw [List.length_cons, List.length_cons]
      have := h6.2
      omega
theorem eLc_some {ρ ρ' : List Sl} {r : Sl} (h : eLc w vs g tt fe ρ = some (r, ρ')) : ∃ items rs ρ1 zs ρ2, w ρ = some (items, rs, ρ1) ∧ lcP vs g tt fe items ρ1 = some (zs, ρ2) ∧ r = .own zs ∧ ρ' = putB rs (rs.map tmpOf) (backS ρ2 vs (keepS ρ1 vs)) := by
  unfold eLc at h
  rw [Option.bind_eq_some_iff] at h
  obtain ⟨⟨items, rs, ρ1⟩, h1, h⟩ := h
  rw [Option.map_eq_some_iff] at h
  obtain ⟨⟨zs, ρ2⟩, h2, h⟩ := h
  cases h
  exact ⟨items, rs, ρ1, zs, ρ2, h1, h2, rfl, rfl⟩
theorem eLc_len (lw : ∀ ρ a b ρ', w ρ = some (a, b, ρ') → ρ'.length = ρ.length) (lg : ∀ p ρ ρ', g p ρ = some ρ' → ρ'.length = ρ.length) (lt : ∀ ρ r ρ', tt ρ = some (r, ρ') → ρ'.length = ρ.length) (le : ∀ ρ r ρ', fe ρ = some (r, ρ') → ρ'.length = ρ.length) :
    ∀ ρ r ρ', eLc w vs g tt fe ρ = some (r, ρ') → ρ'.length = ρ.length := fun ρ r ρ' h => by
  obtain ⟨items, rs, ρ1, zs, ρ2, h1, h2, _, rfl⟩ := eLc_some h
  rw [putB_len, backS_len, (lcP_len lg lt le _ _ _ _ h2).1]
  exact lw _ _ _ _ h1
/-- the reading of a comprehension -/
theorem tLc_of (nd : vs.Nodup) (hws : ∀ j ∈ ws, j ∈ vs) (lw : ∀ ρ a b ρ', w ρ = some (a, b, ρ') → ρ'.length = ρ.length) (lg : ∀ p ρ ρ', g p ρ = some ρ' → ρ'.length = ρ.length) (lt : ∀ ρ r ρ', tt ρ = some (r, ρ') → ρ'.length = ρ.length) (le : ∀ ρ r ρ', fe ρ = some (r, ρ') → ρ'.length = ρ.length)
    (σ : L2.St) (H : Hp) (Q : VK) (h : TEv R (eLc w vs g tt fe) σ H Q) : tLc (TIv R w) (TGv R ws g) (TTv R tt) (TEv R fe) vs σ H Q := by
  obtain ⟨e, F, ρ, tm, r, ρ', hl, hB, hf, k⟩ := h
  obtain ⟨items, rs, ρ1, zs, ρ2, h1, h2, rfl, rfl⟩ := eLc_some hf
  have l1 := lw _ _ _ _ h1
  refine ⟨e, F, ρ, tm, items, rs, ρ1, hl, hB, h1, fun J H1 F1 xs B1 k1 wk hz D nD => ?_⟩
  generalize htI : (rs.map tmpOf).zip (xs.map some) = tI at B1 wk
  generalize hsv : (keepS ρ1 vs).zip (vs.map fun v => (σ[v]?).getD none) = sv
  have l1' : ρ1.length = σ.length := by omega
  have hlz := lcP_len lg lt le _ _ _ _ h2
  -- the first state
  have B2 : Bag R e F1 (upd H1 D (.lst [])) ((wipeS ρ1 vs).zip (wipe σ vs) ++ (sv ++ tm ++ [(.own [], some (.ref D))]) ++ tI) := by
    have b1 := Bag.aside (vs := vs) nd l1' (by rw [List.append_assoc] at B1; exact B1)
    rw [hsv] at b1
    have b2 := b1.new_lst (p := D) nD (xs := []) (vs := []) .nil
    refine b2.perm ?_
    simp only [List.append_assoc]
    refine (List.Perm.refl _).append ((List.Perm.refl _).append ((List.Perm.refl _).append ?_))
    exact (List.perm_append_singleton _ _)
  refine ⟨fun i m H2 => m = items.length - i ∧ i ≤ items.length ∧ ∃ F2 ρ3 acc zs2, ρ3.length = σ.length ∧ Bag R e F2 H2 ((wipeS ρ3 vs).zip (wipe σ vs) ++ (sv ++ tm ++ [(.own acc, some (.ref D))]) ++ tI) ∧ lcP vs g tt fe (items.drop i) ρ3 = some (zs2, ρ2) ∧ acc ++ zs2 = zs ∧ acc.length ≤ i,
    ⟨_, rfl, Nat.zero_le _, F1, ρ1, [], zs, l1', B2, by simpa using h2, rfl, Nat.zero_le _⟩, ?_⟩
  rintro i m H2 ⟨rfl, hi, F2, ρ3, acc, zs2, l3, B3, h3, ez, hac⟩
  obtain ⟨wgo, wstop⟩ := wk e F2 H2 _ i B3
  by_cases hlt : i < items.length
  · obtain ⟨go, yl⟩ := wgo hlt
    have ed : items.drop i = items[i] :: items.drop (i + 1) := by rw [List.drop_eq_getElem_cons hlt]
    rw [ed] at h3
    unfold lcP at h3
    rw [Option.bind_eq_some_iff] at h3
    obtain ⟨ρ4, g4, h3⟩ := h3
    rw [Option.bind_eq_some_iff] at h3
    obtain ⟨⟨b, ρ5⟩, g5, h3⟩ := h3
    refine .inr ⟨go, fun H' => ∃ F2 ρ3 acc zs2, ρ3.length = σ.length ∧ Bag R e F2 H' ((wipeS ρ3 vs).zip (wipe σ vs) ++ (sv ++ tm ++ [(.own acc, some (.ref D))]) ++ tI) ∧ lcP vs g tt fe (items.drop (i + 1)) ρ3 = some (zs2, ρ2) ∧ acc ++ zs2 = zs ∧ acc.length ≤ i + 1, fun H' hN => ⟨items.length - (i + 1), by omega, rfl, by omega, hN⟩, fun x H' y => ?_⟩
    obtain ⟨p, F3, ep, B4, rp⟩ := yl x H' y
    have ep' : p = items[i] := by rw [List.getElem?_eq_getElem hlt] at ep; cases ep; rfl
    subst ep'
    have lg4 := lg _ _ _ g4
    rw [wipeS_len] at lg4
    have lt5 := lt _ _ _ g5
    rw [List.append_assoc] at B4
    refine ⟨e, F3, wipeS ρ3 vs, _, _, ρ4, by rw [wipeS_len, wipe_length]; exact l3, B4, rp, g4, fun σ2 ls2 ks2 B5 => ?_⟩
    rw [wipe_length] at ls2
    have hw := wipe_same ls2 ks2 hws
    refine ⟨hw, e, F3, ρ4, _, b, ρ5, by omega, B5, g5, fun H5 F5 B6 => ?_⟩
    cases b with
    | false =>
      refine iteF ?_
      rw [if_neg Bool.false_ne_true] at h3
      refine ⟨F5, ρ5, acc, zs2, by omega, ?_, h3, ez, by omega⟩
      rw [List.append_assoc]
      exact B6.again (by omega) hw
    | true =>
      refine iteT ?_
      rw [if_pos rfl] at h3
      rw [Option.bind_eq_some_iff] at h3
      obtain ⟨⟨r6, ρ6⟩, g6, h3⟩ := h3
      rw [Option.bind_eq_some_iff] at h3
      obtain ⟨q, hq, h3⟩ := h3
      rw [Option.map_eq_some_iff] at h3
      obtain ⟨⟨zs3, ρ7⟩, h7, h3⟩ := h3
      cases h3
      have le6 : ρ6.length = ρ5.length := le _ _ _ g6
      refine ⟨e, F5, ρ5, _, r6, ρ6, by omega, B6, g6, fun y2 H6 F6 B7 _ => ?_⟩
      obtain ⟨F7, s7, B8, rq⟩ := B7.val hq
      -- the list at D
      have gD : (ρ6.zip σ2 ++ (sv ++ tm ++ [(Sl.own acc, some (V.ref D))] ++ tI))[(ρ6.zip σ2 ++ (sv ++ tm)).length]? = some (.own acc, some (.ref D)) := by
        have : ρ6.zip σ2 ++ (sv ++ tm ++ [(Sl.own acc, some (V.ref D))] ++ tI) = (ρ6.zip σ2 ++ (sv ++ tm)) ++ (Sl.own acc, some (V.ref D)) :: tI := by simp only [List.append_assoc, List.singleton_append]
        rw [this]; exact app_mid
      obtain ⟨a0, us, ea, hF, hH, hr⟩ := B8.all _ _ _ gD
      cases ea
      have hlu := hr.length
      refine ⟨us, hH, by omega, F7, ρ6, acc ++ [q], zs3, by omega, ?_, h7, by rw [← ez, List.append_assoc]; rfl, by rw [List.length_append]; simp; omega⟩
      have B9 := B8.write (t := .own (acc ++ [q])) (o := .lst (us ++ [y2])) gD rfl rfl ⟨D, _, rfl, hF, upd_same, hr.append (.one rq)⟩
      have eS : (ρ6.zip σ2 ++ (sv ++ tm ++ [(Sl.own acc, some (V.ref D))] ++ tI)).set (ρ6.zip σ2 ++ (sv ++ tm)).length (.own (acc ++ [q]), some (.ref D)) = ρ6.zip σ2 ++ (sv ++ tm ++ [(Sl.own (acc ++ [q]), some (V.ref D))] ++ tI) := by
        have e1 : ρ6.zip σ2 ++ (sv ++ tm ++ [(Sl.own acc, some (V.ref D))] ++ tI) = (ρ6.zip σ2 ++ (sv ++ tm)) ++ (Sl.own acc, some (V.ref D)) :: tI := by simp only [List.append_assoc, List.singleton_append]
        rw [e1, List.set_append_right _ _ (Nat.le_refl _), Nat.sub_self, List.set_cons_zero]
        simp only [List.append_assoc, List.singleton_append]
      rw [eS] at B9
      rw [List.append_assoc]
      exact B9.again (by omega) hw
  · have ei : i = items.length := by omega
    rw [ei, List.drop_length] at h3
    cases h3
    rw [List.append_nil] at ez
    subst ez
    refine .inl ⟨wstop ei, ?_⟩
    -- home
    have lk : (keepS ρ1 vs).length = vs.length := by unfold keepS; rw [List.length_map]
    have B4 : Bag R e F2 H2 ((wipeS ρ2 vs).zip (wipe σ vs) ++ ((keepS ρ1 vs).zip (vs.map fun v => (σ[v]?).getD none) ++ (tm ++ ((rs.map tmpOf).zip (xs.map some) ++ [(.own acc, some (.ref D))])))) := by
      rw [hsv, htI]
      refine B3.perm ?_
      simp only [List.append_assoc]
      refine (List.Perm.refl _).append ((List.Perm.refl _).append ((List.Perm.refl _).append ?_))
      exact (List.perm_append_comm)
    have B5 := Bag.backs (ρ := wipeS ρ2 vs) nd lk (by rw [wipeS_len]; exact l3) B4
    have eb : backS (wipeS ρ2 vs) vs (keepS ρ1 vs) = backS ρ2 vs (keepS ρ1 vs) := by
      have : ∀ (vs : List Nat) (ss : List Sl) (ρ : List Sl), ss.length = vs.length → vs.Nodup → backS (wipeS ρ vs) vs ss = backS ρ vs ss := by
        intro vs
        induction vs with
        | nil => intro ss ρ _ _; cases ss <;> (unfold backS wipeS; rfl)
        | cons v vs ih =>
          intro ss ρ hl nd
          cases ss with
          | nil => cases hl
          | cons s ss =>
            rw [List.nodup_cons] at nd
            unfold backS
            have e1 : backS (wipeS ρ (v :: vs)) vs ss = (backS (wipeS ρ vs) vs ss).set v .un := by
              show backS ((wipeS ρ vs).set v .un) vs ss = _
              have : ∀ (vs : List Nat) (ss : List Sl) (ρ : List Sl), v ∉ vs → backS (ρ.set v .un) vs ss = (backS ρ vs ss).set v .un := by
                intro vs
                induction vs with
                | nil => intro ss ρ _; unfold backS; rfl
                | cons u vs ih =>
                  intro ss ρ hu
                  cases ss with
                  | nil => unfold backS; rfl
                  | cons t ss =>
                    unfold backS
                    rw [ih ss ρ fun z => hu (List.mem_cons_of_mem _ z), List.set_comm _ _ fun z => hu (by rw [z]; exact List.mem_cons_self)]
              exact this vs ss _ nd.1
            rw [e1, List.set_set, ih ss ρ (by simpa using hl) nd.2]
      exact this vs _ _ lk nd
    rw [eb] at B5
    rw [← List.append_assoc] at B5
    have B6 := Bag.home (as := rs) (ss := rs.map tmpOf) (C := [(.own acc, some (.ref D))]) (by rw [List.length_map]) (by rw [backS_len]; exact l3) k1 B5
    exact k _ H2 F2 B6 pk_own
theorem ev_lc (hc : X.calm = true) (hN : X.N.Nodup) (hw : Iv X R tg iter w) (ok : BlkOk X.N X.env.scope scope own) (nd : (own.map (·.2)).Nodup) (hws : ∀ j ∈ ws, j ∈ own.map (·.2))
    (hg : ∀ (s : Shared) (H : Hp) (C : Addr) (cl : List (Str × Addr)) (fp : List Addr), Gv (X.blk s H scope (compEnvC scope cl C X.env) fp) R tg ws g) (ht : ∀ (s : Shared) (H : Hp) (C : Addr) (cl : List (Str × Addr)) (fp : List Addr), Tsv (X.blk s H scope (compEnvC scope cl C X.env) fp) R ifs tt)
    (he : ∀ (s : Shared) (H : Hp) (C : Addr) (cl : List (Str × Addr)) (fp : List Addr), Ev (X.blk s H scope (compEnvC scope cl C X.env) fp) R elt fe) (hs : ∀ x, foldedSetIterable iter X.env x = pure x := by intro _; rfl)
    (s0 : Shared) (H0 : Hp) : Ev X R (.ListComp elt [⟨tg, iter, ifs, 0⟩] scope pos) (eLc w (own.map (·.2)) g tt fe) :=
  ⟨eLc_len hw.len (hg s0 H0 0 [] []).len (ht s0 H0 0 [] []).len (he s0 H0 0 [] []).len, pe_mono (pe_lc hc hN hw.pi ok (fun s H C cl fp => (hg s H C cl fp).pg) (fun s H C cl fp => (ht s H C cl fp).pts) (fun s H C cl fp => (he s H C cl fp).pe) hs)
    (tLc_of nd hws hw.len (hg s0 H0 0 [] []).len (ht s0 H0 0 [] []).len (he s0 H0 0 [] []).len)⟩
/-- name = [..] on one line -/
theorem sv_setLc {pr : List Nat} {i : Nat} {y : Str} {py spos : Pos} (hc : X.calm = true) (hN : X.N.Nodup) (hy : X.N[i]? = some y) (hyl : X.env.scope.names.lookup y = some .local) (hp : i ∉ pr)
    (hsw : swapsWith (.ListComp elt [⟨tg, iter, ifs, 0⟩] scope pos) (some (.Name y py)) spos.line X.env = pure true) (hw : Iv X R tg iter w) (ok : BlkOk X.N X.env.scope scope own) (nd : (own.map (·.2)).Nodup) (hws : ∀ j ∈ ws, j ∈ own.map (·.2))
    (hg : ∀ (s : Shared) (H : Hp) (C : Addr) (cl : List (Str × Addr)) (fp : List Addr), Gv (X.blk s H scope (compEnvC scope cl C X.env) fp) R tg ws g) (ht : ∀ (s : Shared) (H : Hp) (C : Addr) (cl : List (Str × Addr)) (fp : List Addr), Tsv (X.blk s H scope (compEnvC scope cl C X.env) fp) R ifs tt)
    (he : ∀ (s : Shared) (H : Hp) (C : Addr) (cl : List (Str × Addr)) (fp : List Addr), Ev (X.blk s H scope (compEnvC scope cl C X.env) fp) R elt fe) (hs : ∀ x, foldedSetIterable iter X.env x = pure x := by intro _; rfl)
    (s0 : Shared) (H0 : Hp) : Sv X R pr (.Assign [.Name y py] (.ListComp elt [⟨tg, iter, ifs, 0⟩] scope pos) spos) (sSet i (eLc w (own.map (·.2)) g tt fe)) := by
  have le := eLc_len (vs := own.map (·.2)) hw.len (hg s0 H0 0 [] []).len (ht s0 H0 0 [] []).len (he s0 H0 0 [] []).len
  refine ⟨sSet_len le, ps_mono (ps_setLc hc hN hy hyl hsw hw.pi ok (fun s H C cl fp => (hg s H C cl fp).pg) (fun s H C cl fp => (ht s H C cl fp).pts) (fun s H C cl fp => (he s H C cl fp).pe) hs) fun D σ H q => ?_⟩
  exact tLc_of nd hws hw.len (hg s0 H0 0 [] []).len (ht s0 H0 0 [] []).len (he s0 H0 0 [] []).len σ H _ (tSet_of hp le q)
end
end PL
set_option Elab.async false
set_option linter.all false
set_option maxRecDepth 100000
set_option maxHeartbeats 4000000
/-! PLj: what is walked: lists, tuples, ranges, zip, enumerate. -/
namespace PL
open PySem PySem.Spec PyProof.Rows L2

theorem pi_mono {X : Cx} {tg e : Expr} {t t' : TI} (h : PI X tg e t) (m : ∀ σ H Q, t' σ H Q → t σ H Q) : PI X tg e t' := ⟨fun pins s σ H Q I q => h.run pins s σ H Q I (m σ H Q q)⟩

/-! ### a list or a tuple -/
def seqOf : Sl → Option (List PV)
  | .fz (.lst xs) => some xs
  | .fz (.tup xs) => some xs
  | .fz (.scr xs) => some xs
  | .own xs => some xs
  | _ => none
def iSeq (f : PF) : PIF := fun ρ => (f ρ).bind fun x => (seqOf (tmpOf x.1)).map fun items => (items, [x.1], x.2)
def rSeq (K : PySem.W.Frag) (te : TE) : TI := fun σ H Rr => te σ H fun x H1 => (∃ a vs, x = .ref a ∧ SqL K H1 a vs ∧ (vs.length ≤ sizeLine → Rr (Itl K a) H1)) ∨ (∃ a vs, x = .ref a ∧ SqT K H1 a vs ∧ (vs.length ≤ sizeLine → Rr (Itt K a) H1))
theorem pi_seq {X : Cx} {tg l : Expr} {tl : TE} (hl : PE X l tl) : PI X tg l (rSeq X.K tl) := by
  refine ⟨fun pins s σ H R I h => ?_⟩
  refine thn (hl.run pins s σ H _ I h) fun v s1 ⟨x, H1, I1, r1, q1⟩ => ?_
  rcases q1 with ⟨a, vs, e, hq, q⟩ | ⟨a, vs, e, hq, q⟩
  · subst e
    cases r1
    obtain ⟨its, rv, p, hz⟩ := I1.list hq
    refine wpAny_pyIter_list p.isList ?_
    refine ⟨s1.heap.objs.size, [s1.heap.objs.size], _, _, H1, rfl, I1.kept (t' := s1.toks) fun b o e => Heap.get?_push_of_some _ e, turn_list a _, ⟨_, Heap.get?_push_size _ rfl, rfl, rfl⟩, fun b hb => ?_, q hz⟩
    have e : b = s1.heap.objs.size := by simpa using hb
    subst e
    exact I1.fpOk (Nat.le_refl _) (I1.hok.fresh (Nat.le_refl _))
  · subst e
    cases r1
    obtain ⟨its, rv, p, hz⟩ := I1.tuple hq
    refine wpAny_pyIter_tuple (show s1.heap.IsTuple a its.toArray from p) ?_
    refine ⟨s1.heap.objs.size, [s1.heap.objs.size], _, _, H1, rfl, I1.kept (t' := s1.toks) fun b o e => Heap.get?_push_of_some _ e, turn_tuple a _, ⟨_, Heap.get?_push_size _ rfl, rfl, rfl⟩, fun b hb => ?_, q hz⟩
    have e : b = s1.heap.objs.size := by simpa using hb
    subst e
    exact I1.fpOk (Nat.le_refl _) (I1.hok.fresh (Nat.le_refl _))

/-- sources: a list, a tuple -/
inductive Src where
  | l (a : Addr) | t (a : Addr)
def Src.ad : Src → Addr
  | .l a => a
  | .t a => a
def SqS (K : PySem.W.Frag) (H : Hp) : Src → List V → Prop
  | .l a, vs => SqL K H a vs
  | .t a, vs => SqT K H a vs
section
variable {R : RE} {e : En} {F H : Hp}
/-- whether a content is a tuple, or a list -/
def kindOk (src : Src) (s : Sl) : Prop := match src with
  | .l _ => ∀ xs, s ≠ .fz (.tup xs)
  | .t _ => ∃ xs, s = .fz (.tup xs)
/-- .. as it stands later: the same source -/
theorem src_now {s : Sl} {src : Src} {items : List PV} (k : kindOk src s) (q : seqOf s = some items) (h : SlR R F H s (some (.ref src.ad))) (sb : Sub F H) : ∃ vs, SqS R.K H src vs ∧ RpL R F items vs := by
  unfold seqOf at q
  split at q
  · cases q
    obtain ⟨y, ey, r⟩ := h
    cases ey
    cases src with
    | l a =>
      cases r with
      | lst q r => exact ⟨_, SqL.of (sb _ _ q), r⟩
    | t a => obtain ⟨xs, z⟩ := k; cases z
  · cases q
    obtain ⟨y, ey, r⟩ := h
    cases ey
    cases src with
    | l a => exact absurd rfl (k _)
    | t a =>
      cases r with
      | tup q r => exact ⟨_, sb.sqT q.sq, r⟩
  · cases q
    obtain ⟨y, ey, r⟩ := h
    cases ey
    cases src with
    | l a =>
      cases r with
      | scr q r => exact ⟨_, sb.sqL q, r⟩
    | t a => obtain ⟨xs, z⟩ := k; cases z
  · cases q
    obtain ⟨a, vs, ey, _, h2, r⟩ := h
    cases src with
    | l b => cases ey; exact ⟨vs, SqL.of h2, r⟩
    | t b => obtain ⟨xs, z⟩ := k; cases z
  · cases q
theorem src_of' {s : Sl} {x : V} {items : List PV} (h : SlR R F H s (some x)) (sb : Sub F H) (q : seqOf s = some items) : ∃ src, x = .ref src.ad ∧ kindOk src s := by
  unfold seqOf at q
  split at q
  · cases q
    obtain ⟨y, ey, r⟩ := h
    cases ey
    cases r with
    | @lst a _ vs q r => exact ⟨.l a, rfl, fun xs z => by cases z⟩
  · cases q
    obtain ⟨y, ey, r⟩ := h
    cases ey
    cases r with
    | @tup a _ vs q r => exact ⟨.t a, rfl, _, rfl⟩
  · cases q
    obtain ⟨y, ey, r⟩ := h
    cases ey
    cases r with
    | @scr a _ vs q r => exact ⟨.l a, rfl, fun xs z => by cases z⟩
  · cases q
    obtain ⟨a, vs, ey, _, h2, r⟩ := h
    cases ey
    exact ⟨.l a, rfl, fun xs z => by cases z⟩
  · cases q
end
section
variable {X : Cx} {R : RE} {tg l : Expr} {fa fb fc : PF}
theorem iSeq_some {ρ ρ' : List Sl} {items : List PV} {rs : List Sl} (q : iSeq fa ρ = some (items, rs, ρ')) : ∃ r, fa ρ = some (r, ρ') ∧ seqOf (tmpOf r) = some items ∧ rs = [r] := by
  unfold iSeq at q
  rw [Option.bind_eq_some_iff] at q
  obtain ⟨⟨r, ρ1⟩, h1, q⟩ := q
  rw [Option.map_eq_some_iff] at q
  obtain ⟨its, h2, q⟩ := q
  cases q
  exact ⟨r, h1, h2, rfl⟩
theorem iv_seq (hK : R.K = X.K) (h : Ev X R l fa) : Iv X R tg l (iSeq fa) := by
  refine ⟨fun ρ a b ρ' q => ?_, pi_mono (pi_seq h.pe) fun σ H Q q => ?_⟩
  · obtain ⟨r, h1, _⟩ := iSeq_some q
    exact h.len _ _ _ h1
  · obtain ⟨e, F, ρ, tm, items, rs, ρ', hl, hB, hf, k⟩ := q
    obtain ⟨r, h1, h2, rfl⟩ := iSeq_some hf
    refine ⟨e, F, ρ, tm, r, ρ', hl, hB, h1, fun x H1 F1 B1 k1 => ?_⟩
    have hx := B1.all _ _ _ app_last
    obtain ⟨src, ex, kd⟩ := src_of' hx B1.sub h2
    subst ex
    obtain ⟨vs, hq, hr⟩ := src_now kd h2 hx B1.sub
    have key : ∀ J, (∀ (e' : En) (F' H' : Hp) (B : Bg) (i : Nat) (ws : List V), Bag R e' F' H' (B ++ [(tmpOf r, some (.ref src.ad))]) → SqS R.K H' src ws → RpL R F' items ws → (i < items.length → J.go i H' ∧ ∀ x H2, J.yld i H' x H2 → H2 = H' ∧ ws[i]? = some x) ∧ (i = items.length → J.stop i H')) → vs.length ≤ sizeLine → Q J H1 := by
      intro J hJ hz
      refine k J H1 F1 [.ref src.ad] B1 (.cons k1 .nil) (fun e' F' H' B i hB' => ?_) (by rw [hr.length]; exact hz)
      have hx' := hB'.all _ _ _ app_last
      obtain ⟨ws, hw, hrw⟩ := src_now kd h2 hx' hB'.sub
      obtain ⟨j1, j2⟩ := hJ e' F' H' B i ws hB' hw hrw
      refine ⟨fun hi => ⟨(j1 hi).1, fun x H2 y => ?_⟩, j2⟩
      obtain ⟨e1, e2⟩ := (j1 hi).2 x H2 y
      subst e1
      obtain ⟨p, hp, rp⟩ := hrw.get e2
      exact ⟨p, F', hp, hB', rp⟩
    cases src with
    | l a =>
      rw [hK] at hq
      refine .inl ⟨a, vs, rfl, hq, key _ fun e' F' H' B i ws hB' hw hrw => ?_⟩
      rw [hK] at hw
      exact ⟨fun hi => ⟨⟨ws, ws[i]'(by rw [← hrw.length]; exact hi), hw, by simp⟩, fun x H2 y => ⟨y.1, y.2 ws hw⟩⟩, fun hi => ⟨ws, hw, by rw [← hrw.length]; omega⟩⟩
    | t a =>
      rw [hK] at hq
      refine .inr ⟨a, vs, rfl, hq, key _ fun e' F' H' B i ws hB' hw hrw => ?_⟩
      rw [hK] at hw
      exact ⟨fun hi => ⟨⟨ws, ws[i]'(by rw [← hrw.length]; exact hi), hw, by simp⟩, fun x H2 y => ⟨y.1, y.2 ws hw⟩⟩, fun hi => ⟨ws, hw, by rw [← hrw.length]; omega⟩⟩
/-! ### ranges -/
def rangeP (lo : Int) (n : Nat) : List PV := (List.range n).map fun k => PV.int (lo + (k : Nat))
def iRange1 (f : PF) : PIF := fun ρ => (f ρ).bind fun x => match x.1 with
  | .fz (.int j) => if -lineN ≤ j ∧ j ≤ lineN then some (rangeP 0 j.toNat, [], x.2) else none
  | _ => none
def iRange2 (f g : PF) : PIF := fun ρ => (f ρ).bind fun x => (g x.2).bind fun y => match x.1, y.1 with
  | .fz (.int i), .fz (.int j) => if -(2 ^ 62) ≤ i ∧ j < 2 ^ 62 ∧ i < 2 ^ 62 ∧ -(2 ^ 62) ≤ j ∧ j - i ≤ lineN then some (rangeP i (j - i).toNat, [], y.2) else none
  | _, _ => none
theorem wk_range {lo : Int} {n : Nat} : WkOk R (Itr lo n) (rangeP lo n) [] := by
  intro e F H B i hB
  have ln : (rangeP lo n).length = n := by unfold rangeP; simp
  refine ⟨fun hi => ⟨by rw [ln] at hi; exact hi, fun x H' y => ?_⟩, fun hi => by rw [ln] at hi; exact Nat.le_of_eq hi.symm⟩
  obtain ⟨e1, e2⟩ := y
  subst e1 e2
  rw [ln] at hi
  refine ⟨.int (lo + i), F, ?_, hB, .int _⟩
  unfold rangeP
  rw [List.getElem?_map, List.getElem?_range hi]; rfl
theorem iv_range1 {a : Expr} {p pos : Pos} (hg : Gl X "range") (hm : X.mg "range" = none) (ha : Ev X R a fa) (hs : starEach [a] X.env = [(false, eval a X.env)] := by rfl) (hs3 : starEach [] X.env = [] := by rfl) : Iv X R tg (.Call (.Name "range" p) [a] [] pos) (iRange1 fa) := by
  have key : ∀ {ρ ρ' : List Sl} {items : List PV} {rs : List Sl}, iRange1 fa ρ = some (items, rs, ρ') → ∃ j, fa ρ = some (.fz (.int j), ρ') ∧ (-lineN ≤ j ∧ j ≤ lineN) ∧ items = rangeP 0 j.toNat ∧ rs = [] := by
    intro ρ ρ' items rs q
    unfold iRange1 at q
    rw [Option.bind_eq_some_iff] at q
    obtain ⟨⟨r, ρ1⟩, h1, q⟩ := q
    split at q
    · rename_i j e1
      dsimp only at e1
      subst e1
      split at q
      · cases q; exact ⟨j, h1, by assumption, rfl, rfl⟩
      · cases q
    · cases q
  refine ⟨fun ρ a b ρ' q => ?_, pi_mono (pi_range1 hg hm (pa_cons ha.pe pa_nil (by rw [hs]; exact congrArg _ hs3.symm)) hs) fun σ H Q q => ?_⟩
  · obtain ⟨j, h1, _⟩ := key q
    exact ha.len _ _ _ h1
  · obtain ⟨e, F, ρ, tm, items, rs, ρ', hl, hB, hf, k⟩ := q
    obtain ⟨j, h1, h2, rfl, rfl⟩ := key hf
    refine ⟨e, F, ρ, tm, _, ρ', hl, hB, h1, fun x H1 F1 B1 _ => ?_⟩
    have ex := (B1.rq_fz (x := x) (p := .int j) app_last).int
    subst ex
    have hL : (lineN : Int) = 16777216 := rfl
    have hz : (0 - (2:Int) ^ 62) = -4611686018427387904 := by decide
    refine ⟨j, rfl, by omega, by omega, ?_⟩
    refine k _ H1 F1 [] (by simpa using B1.pop) .nil (by simpa using wk_range) ?_
    unfold rangeP
    rw [List.length_map, List.length_range, ← lineN_eq]
    omega
theorem iv_range2 {a b : Expr} {p pos : Pos} (hg : Gl X "range") (hm : X.mg "range" = none) (ha : Ev X R a fa) (hb : Ev X R b fb) (hs : starEach [a, b] X.env = [(false, eval a X.env), (false, eval b X.env)] := by rfl) (hs2 : starEach [b] X.env = [(false, eval b X.env)] := by rfl) (hs3 : starEach [] X.env = [] := by rfl) : Iv X R tg (.Call (.Name "range" p) [a, b] [] pos) (iRange2 fa fb) := by
  have key : ∀ {ρ ρ' : List Sl} {items : List PV} {rs : List Sl}, iRange2 fa fb ρ = some (items, rs, ρ') → ∃ i j ρ1, fa ρ = some (.fz (.int i), ρ1) ∧ fb ρ1 = some (.fz (.int j), ρ') ∧ (-(2 ^ 62) ≤ i ∧ j < 2 ^ 62 ∧ i < 2 ^ 62 ∧ -(2 ^ 62) ≤ j ∧ j - i ≤ lineN) ∧ items = rangeP i (j - i).toNat ∧ rs = [] := by
    intro ρ ρ' items rs q
    unfold iRange2 at q
    rw [Option.bind_eq_some_iff] at q
    obtain ⟨⟨r, ρ1⟩, h1, q⟩ := q
    rw [Option.bind_eq_some_iff] at q
    obtain ⟨⟨r2, ρ2⟩, h2, q⟩ := q
    split at q
    · rename_i i j e1 e2
      dsimp only at e1 e2
      subst e1 e2
      split at q
      · cases q; exact ⟨i, j, ρ1, h1, h2, by assumption, rfl, rfl⟩
      · cases q
    · cases q
  refine ⟨fun ρ a b ρ' q => ?_, pi_mono (pi_range2 hg hm (pa_cons ha.pe (pa_cons hb.pe pa_nil (by rw [hs2, hs3])) (by rw [hs, hs2])) hs hs2) fun σ H Q q => ?_⟩
  · obtain ⟨i, j, ρ1, h1, h2, _⟩ := key q
    exact (hb.len _ _ _ h2).trans (ha.len _ _ _ h1)
  · obtain ⟨e, F, ρ, tm, items, rs, ρ', hl, hB, hf, k⟩ := q
    obtain ⟨i, j, ρ1, h1, h2, h3, rfl, rfl⟩ := key hf
    have l1 := ha.len _ _ _ h1
    refine ⟨e, F, ρ, tm, _, ρ1, hl, hB, h1, fun x H1 F1 B1 _ => ?_⟩
    have ex := (B1.rq_fz (x := x) (p := .int i) app_last).int
    subst ex
    refine ⟨e, F1, ρ1, tm, _, ρ', by omega, B1.pop, h2, fun y H2 F2 B2 _ => ?_⟩
    have ey := (B2.rq_fz (x := y) (p := .int j) app_last).int
    subst ey
    have hL : (lineN : Int) = 16777216 := rfl
    refine ⟨i, j, rfl, ⟨h3.1, h3.2.2.1, h3.2.2.2.1, h3.2.1⟩, ?_⟩
    refine k _ H2 F2 [] (by simpa using B2.pop) .nil (by simpa using wk_range) ?_
    unfold rangeP
    rw [List.length_map, List.length_range, ← lineN_eq]
    omega
end
end PL
set_option Elab.async false
set_option linter.all false
set_option maxRecDepth 100000
set_option maxHeartbeats 4000000
/-! PLk: zip of two and three, enumerate. -/
namespace PySem
open Sem (wp)
open AutoSeq1 (wpAny_loadPart')
set_option maxHeartbeats 4000000 in
theorem meets_enumerate_newB1 {v : Value} {o : Obj} {H : Heap → Prop} (B : Begins v o H) :
    Meets (Builtin.«enumerate.__new__» ⟨[.type "enumerate", v], []⟩) (fun _ R s => H s.heap ∧
      R (.ok (.ret (.ref (s.heap.push o).objs.size)))
        { s with heap := (s.heap.push o).push { cls := .type "enumerate", data := .fields #[.none, .bool false, .ref s.heap.objs.size, rawInt 0, .none, .none] } }) :=
  .of_wp fun prog w A R s h => by
    obtain ⟨hp, g, d, tk, os⟩ := s; obtain ⟨h1, h⟩ := h
    have hsub := sub_enumerate
    have q1 : ∀ {A : Around} {E : Value → Shared → Prop} {Q : Value → Shared → Prop}, Q (.ref hp.objs.size) ⟨hp.push o, g, d, tk, os⟩ → wpAny (model prog w) A (pyIter v) Q E ⟨hp, g, d, tk, os⟩ :=
      fun {A E Q} hq => B.iter prog w A E ⟨hp, g, d, tk, os⟩ Q h1 hq
    wp_walk using q1
    refine wpAny_stack_any fun st => wpAny_pure ?_
    split
    · rename_i c _ _ _ _ _
      cases (c == Value.type "enumerate")
      · wp_walk using q1
        exact ⟨_, rfl, h⟩
      · wp_walk using q1
        exact ⟨_, rfl, h⟩
    · wp_walk using q1
      exact ⟨_, rfl, h⟩
theorem enum_begins1 {prog : Program} {w : World} {A : Around} {E : Value → Shared → Prop} {s : Shared} {v : Value} {o : Obj} {H : Heap → Prop} {Q : Value → Shared → Prop} (B : Begins v o H) (h1 : H s.heap)
    (h : ∀ h', IsEnum h' (s.heap.objs.size + 1) s.heap.objs.size 0 .none → h'.get? s.heap.objs.size = some o → h'.objs.size = s.heap.objs.size + 2 →
      (∀ b o, s.heap.get? b = some o → h'.get? b = some o) → Q (.ref (s.heap.objs.size + 1)) { s with heap := h' }) :
    wpAny (model prog w) A (call (.type "enumerate") [v]) Q E s := by
  refine callType_new F.called_enumerate (by decide) (F.typeCall_enumerate_1 _) (F.newCall_enumerate_1 _) (fun obj => F.args_object_init_2 obj _) F.entry_enumerate_new
    (meets_enumerate_newB1 B) ⟨h1, ?_⟩
  have hz : (s.heap.push o).objs.size = s.heap.objs.size + 1 := Heap.size_push ..
  show _ ∧ _
  rw [hz]
  have he : IsEnum ((s.heap.push o).push { cls := .type "enumerate", data := .fields #[.none, .bool false, .ref s.heap.objs.size, rawInt 0, .none, .none] }) (s.heap.objs.size + 1) s.heap.objs.size 0 .none := by
    have := Heap.get?_push_size (s.heap.push o) (o := { cls := .type "enumerate", data := .fields #[.none, .bool false, .ref s.heap.objs.size, rawInt 0, .none, .none] }) rfl
    rw [hz] at this
    exact this
  refine ⟨⟨_, he, rfl⟩, h _ he (Heap.get?_push_of_some _ (Heap.get?_push_size _ B.free)) (by rw [Heap.size_push, hz]) fun b o x => Heap.get?_push_of_some _ (Heap.get?_push_of_some _ x)⟩
end PySem
namespace PL
open PySem PySem.Spec PyProof.Rows L2

def itS (h : Heap) (it : Addr) (s : Src) (i : Nat) : Prop := match s with
  | .l a => h.IsListIter it a i
  | .t a => h.IsTupleIter it a i
def arS (h : Heap) (s : Src) (its : Array Value) : Prop := match s with
  | .l a => h.IsList a its
  | .t a => h.IsTuple a its
def obS (s : Src) : Obj := match s with
  | .l a => { cls := .type "list_iterator", data := .fields #[.ref a, .int 0 0] }
  | .t a => { cls := .type "tuple_iterator", data := .fields #[.ref a, .int 0 0] }
theorem begS (s : Src) (its : Array Value) : Begins (.ref s.ad) (obS s) fun h => arS h s its := by
  cases s with
  | l a => exact begins_list a its
  | t a => exact begins_tuple a its
theorem drawS {prog : Program} {w : World} {A : Around} (hh : A.handled = none) (it : Addr) (s : Src) (hne : s.ad ≠ it) (its : Array Value) : Draws prog w A it [it, s.ad] its.size (fun i v => its[i]? = some v) (fun i h => itS h it s i ∧ arS h s its) := by
  cases s with
  | l a => exact Draws.list hh it a hne its
  | t a => exact Draws.tuple hh it a hne its
theorem itS_new {h : Heap} {it : Addr} {s : Src} (e : h.get? it = some (obS s)) : itS h it s 0 := by
  cases s with
  | l a => exact ⟨_, e, rfl, rfl⟩
  | t a => exact ⟨_, e, rfl, rfl⟩
theorem itS_obj {h : Heap} {it : Addr} {s : Src} {i : Nat} (e : itS h it s i) : ∃ o, h.get? it = some o ∧ ∀ v, o.data ≠ .cell v := by
  cases s with
  | l a => obtain ⟨o, e, c, d⟩ := e; exact ⟨o, e, fun v z => by rw [d] at z; cases z⟩
  | t a => obtain ⟨o, e, c, d⟩ := e; exact ⟨o, e, fun v z => by rw [d] at z; cases z⟩
theorem itS_at {h h' : Heap} {it : Addr} {s : Src} {i : Nat} (e : itS h it s i) (k : ∀ o, h.get? it = some o → h'.get? it = some o) : itS h' it s i := by
  cases s with
  | l a => obtain ⟨o, e, c, d⟩ := e; exact ⟨o, k o e, c, d⟩
  | t a => obtain ⟨o, e, c, d⟩ := e; exact ⟨o, k o e, c, d⟩
section
variable {X : Cx} {pins : List (Addr × Obj)} {σ : L2.St} {H : Hp} {s : Shared}
theorem Inv.src (I : Inv X pins σ H s) {src : Src} {vs : List V} (h : SqS X.K H src vs) : ∃ its : List Value, Vals vs its ∧ arS s.heap src its.toArray ∧ vs.length ≤ sizeLine ∧ src.ad < s.heap.objs.size := by
  cases src with
  | l a =>
    obtain ⟨its, r, p, z⟩ := I.list h
    exact ⟨its, r, p.isList, z, p.lt⟩
  | t a =>
    obtain ⟨its, r, p, z⟩ := I.tuple h
    exact ⟨its, r, p, z, p.lt⟩
theorem Inv.src_inj (I : Inv X pins σ H s) {src : Src} {vs ws : List V} (h : SqS X.K H src vs) (h' : SqS X.K H src ws) : vs = ws := by
  cases src with
  | l a => exact I.list_inj h h'
  | t a => exact I.tuple_inj h h'
end

/-- a walk of new tuples as a Turn: what is asked of each turn -/
theorem turn_gen {P : Program} {w : World} {K : PySem.W.Frag} {elts : List Expr} {kk : Nat} {tpos : Pos} {J : It} {fp wr : List Addr} {z : Addr} {tn : Nat → Heap → Prop}
    (mem : z ∈ fp) (sub : ∀ b ∈ wr, b ∈ fp)
    (obj : ∀ i h, tn i h → ∀ b ∈ fp, ∃ o, h.get? b = some o ∧ ∀ v, o.data ≠ .cell v)
    (keep : ∀ i h h', tn i h → (∀ b ∈ fp, ∀ o, h.get? b = some o → h'.get? b = some o) → tn i h')
    (item : ∀ (X : Cx), X.prog = P → X.w = w → X.K = K → X.calm = true → ∀ (i : Nat) (pins : List (Addr × Obj)) (s : Shared) (σ : L2.St) (H : Hp), Inv X pins σ H s → tn i s.heap → J.go i H →
      ∃ (fpW : List Addr) (n : Nat) (Pt : Nat → Array Value → Prop) (St : Nat → Heap → Prop) (Mid : Nat → Addr → Heap → Prop), WalksT P w X.A z fpW wr n Pt St Mid ∧ i < n ∧ St i s.heap ∧ (∀ h, St (i + 1) h → tn (i + 1) h) ∧
        ∀ vals, Pt i vals → ∃ xs, Vals xs vals.toList ∧ xs.length ≤ sizeLine ∧ ∀ T, H T = none → J.yld i H (.ref T) (upd H T (.tup xs)))
    (done : ∀ (X : Cx), X.prog = P → X.w = w → X.K = K → X.calm = true → ∀ (i : Nat) (pins : List (Addr × Obj)) (s : Shared) (σ : L2.St) (H : Hp), Inv X pins σ H s → tn i s.heap → J.stop i H →
      ∃ (fpW : List Addr) (Pt : Nat → Array Value → Prop) (St : Nat → Heap → Prop) (Mid : Nat → Addr → Heap → Prop), WalksT P w X.A z fpW wr i Pt St Mid ∧ St i s.heap)
    (self : ∀ (A : Around) (i : Nat) (s : Shared) (Q : Value → Shared → Prop) (E : Value → Shared → Prop), tn i s.heap → Q (.ref z) s → wpAny (model P w) A (pyIter (.ref z)) Q E s) : Turn P w K (.Tuple elts kk tpos) J fp z tn where
  mem := mem
  obj := obj
  keep := keep
  item := by
    intro X hP hw hK hc i pins s σ H E I hf st hg
    obtain ⟨fpW, n, Pt, St, Mid, W, hi, hst, hn, hv⟩ := item X hP hw hK hc i pins s σ H I st hg
    subst hP hw hK
    refine W.item i s _ _ hi hst fun T vals h' tk hPt hT hTup hMid hk => ?_
    obtain ⟨xs, rv, hz, hy⟩ := hv vals hPt
    have hnT : H T = none := I.hok.fresh hT
    refine ⟨_, rfl, W.go elts kk tpos i T { s with heap := h', toks := tk } _ _ hMid fun h'' hst' hk' => ?_⟩
    have hTw : T ∉ wr := W.apart i T h' hMid
    have hTup2 : h''.IsTuple T vals := hTup.at fun o e => hk' T o hTw e
    have new : ObjOk X.prog X.w (upd H T (.tup xs)) h'' T (.tup xs) := ⟨hz, vals.toList, rv, (show vals.toList.toArray = vals by simp) ▸ hTup2⟩
    have I1 : Inv X pins σ (upd H T (.tup xs)) { s with heap := h'', toks := tk } :=
      I.turnedNew (ch := wr) (fun b o hb q => hk' b o hb (hk b o hb q)) (fun b hb => hf b (sub b hb)) hT new
    refine ⟨.ref T, _, I1, rfl, hy T hnT, hn _ hst', fun b hb => ?_⟩
    obtain ⟨o, e, _⟩ := obj i _ st b hb
    rw [upd_ne (Nat.ne_of_lt (Nat.lt_of_lt_of_le (Heap.lt_size e) hT))]
    exact (hf b hb).1
  done := by
    intro X hP hw hK hc i pins s σ H E I hf st hg
    obtain ⟨fpW, Pt, St, Mid, W, hst⟩ := done X hP hw hK hc i pins s σ H I st hg
    subst hP hw hK
    exact W.done s _ _ hst fun h' tk hk => ⟨rfl, I.turnedL (ch := wr) (fun b o hb q => hk b o hb q) fun b hb => hf b (sub b hb)⟩
  self := self

/-- zip of two -/
def ItZ2 (K : PySem.W.Frag) (a b : Src) : It :=
  ⟨fun i H => ∃ xs ys x y, SqS K H a xs ∧ SqS K H b ys ∧ xs[i]? = some x ∧ ys[i]? = some y,
    fun i H v H' => ∃ T x y, v = .ref T ∧ H T = none ∧ H' = upd H T (.tup [x, y]) ∧ (∀ xs, SqS K H a xs → xs[i]? = some x) ∧ ∀ ys, SqS K H b ys → ys[i]? = some y,
    fun i H => ∃ xs ys, SqS K H a xs ∧ SqS K H b ys ∧ i = min xs.length ys.length⟩
theorem vals_get {vs : List V} {its : List Value} (r : Vals vs its) {i : Nat} {u : Value} (h : its.toArray[i]? = some u) : ∃ v, vs[i]? = some v ∧ RelV v u := by
  have h' : its[i]? = some u := by simpa using h
  have hl := r.length
  have hi := (List.getElem?_eq_some_iff.mp h').1
  obtain ⟨u', e, q⟩ := r.get (List.getElem?_eq_getElem (show i < vs.length by omega))
  rw [h'] at e
  cases e
  exact ⟨_, List.getElem?_eq_getElem _, q⟩
theorem turn_zip2 {P : Program} {w : World} {K : PySem.W.Frag} {elts : List Expr} {kk : Nat} {tpos : Pos} {a b : Src} {z TI TO i1 i2 : Addr} (S : ZipSep2 z TI TO i1 i2 [i1, a.ad] [i2, b.ad]) (n1 : a.ad ≠ i1) (n2 : b.ad ≠ i2) :
    Turn P w K (.Tuple elts kk tpos) (ItZ2 K a b) [z, TI, TO, i1, i2] z (fun i h => IsZip h z TI TO .none ∧ IsTupOf2 h TI (.ref i1) (.ref i2) ∧ (∃ x y, IsTupOf2 h TO x y) ∧ itS h i1 a i ∧ itS h i2 b i) := by
  refine turn_gen (wr := [z, TO, i1, i2]) (by simp) (fun b hb => by simp at hb ⊢; rcases hb with h | h | h | h <;> simp [h]) (fun i h st c hc => ?_) (fun i h h' st k => ?_) (fun X hP hw hK hc i pins s σ H I st hg => ?_) (fun X hP hw hK hc i pins s σ H I st hg => ?_) fun A i s Q E st h => wpAny_pyIter_zip st.1 h
  · obtain ⟨hz, hTI, ⟨x, y, hTO⟩, h1, h2⟩ := st
    have e' : c = z ∨ c = TI ∨ c = TO ∨ c = i1 ∨ c = i2 := by simpa using hc
    rcases e' with q | q | q | q | q
    · rw [q]; exact ⟨_, hz, fun v q => nomatch q⟩
    · rw [q]; exact ⟨_, hTI, fun v q => nomatch q⟩
    · rw [q]; exact ⟨_, hTO, fun v q => nomatch q⟩
    · rw [q]; exact itS_obj h1
    · rw [q]; exact itS_obj h2
  · obtain ⟨hz, hTI, ⟨x, y, hTO⟩, h1, h2⟩ := st
    exact ⟨k z (by simp) _ hz, k TI (by simp) _ hTI, ⟨x, y, k TO (by simp) _ hTO⟩, itS_at h1 fun o q => k i1 (by simp) o q, itS_at h2 fun o q => k i2 (by simp) o q⟩
  · subst hP hw hK
    obtain ⟨hz, hTI, hTO, h1, h2⟩ := st
    obtain ⟨xs, ys, x, y, q1, q2, e1, e2⟩ := hg
    obtain ⟨its, r1, a1, z1, _⟩ := Inv.src I q1
    obtain ⟨jts, r2, a2, z2, _⟩ := Inv.src I q2
    refine ⟨_, _, _, _, _, WalksT.zipD2 S (drawS (A := X.A.in1) (I.ok.hd hc) i1 a n1 its.toArray) (drawS (A := X.A.in1) (I.ok.hd hc) i2 b n2 jts.toArray), ?_, ⟨hz, hTI, hTO, ⟨h1, a1⟩, ⟨h2, a2⟩⟩, fun h st => ⟨st.1, st.2.1, st.2.2.1, st.2.2.2.1.1, st.2.2.2.2.1⟩, fun vals hv => ?_⟩
    · have l1 := r1.length
      have l2 := r2.length
      have := (List.getElem?_eq_some_iff.mp e1).1
      have := (List.getElem?_eq_some_iff.mp e2).1
      simp only [List.size_toArray]
      omega
    · obtain ⟨u1, u2, p1, p2, rfl⟩ := hv
      obtain ⟨v1, g1, rv1⟩ := vals_get r1 p1
      obtain ⟨v2, g2, rv2⟩ := vals_get r2 p2
      refine ⟨[v1, v2], .cons rv1 (.cons rv2 .nil), by show 2 ≤ sizeLine; decide, fun T hT => ⟨T, v1, v2, rfl, hT, rfl, fun xs' h' => ?_, fun ys' h' => ?_⟩⟩
      · rw [Inv.src_inj I h' q1]; exact g1
      · rw [Inv.src_inj I h' q2]; exact g2
  · subst hP hw hK
    obtain ⟨hz, hTI, hTO, h1, h2⟩ := st
    obtain ⟨xs, ys, q1, q2, ei⟩ := hg
    obtain ⟨its, r1, a1, z1, _⟩ := Inv.src I q1
    obtain ⟨jts, r2, a2, z2, _⟩ := Inv.src I q2
    have W := WalksT.zipD2 S (drawS (prog := X.prog) (w := X.w) (A := X.A.in1) (I.ok.hd hc) i1 a n1 its.toArray) (drawS (A := X.A.in1) (I.ok.hd hc) i2 b n2 jts.toArray)
    have en : min its.toArray.size jts.toArray.size = i := by
      have l1 := r1.length
      have l2 := r2.length
      simp only [List.size_toArray]
      omega
    rw [en] at W
    exact ⟨_, _, _, _, W, ⟨hz, hTI, hTO, ⟨h1, a1⟩, ⟨h2, a2⟩⟩⟩
def rZ2 (K : PySem.W.Frag) (ta : TA) : TI := fun σ H Rr => ta σ H fun vs H1 => ∃ (a b : Src) (xs ys : List V), vs = [.ref a.ad, .ref b.ad] ∧ SqS K H1 a xs ∧ SqS K H1 b ys ∧ (xs.length ≤ sizeLine → ys.length ≤ sizeLine → Rr (ItZ2 K a b) H1)
theorem pi_zip2 {X : Cx} {e e2 : Expr} {ta : TA} {p pos tpos : Pos} {elts : List Expr} {kk : Nat} (hg : Gl X "zip") (hm : X.mg "zip" = none) (ha : PA X [e, e2] ta)
    (hs : starEach [e, e2] X.env = (false, eval e X.env) :: starEach [e2] X.env := by rfl) (hpl : (backTo pos (starEach [e2] X.env)).any (·.1) = false := by rfl) :
    PI X (.Tuple elts kk tpos) (.Call (.Name "zip" p) [e, e2] [] pos) (rZ2 X.K ta) := by
  refine ⟨fun pins s σ H R I h => ?_⟩
  refine Call_ (ld_blt I hg hm PyProof.Rows.boot_zip (PyProof.Rows.callWith_type1 (thn (ha.run pos pins s σ H _ I h) fun us s1 ⟨vs, H1, I1, r1, q1⟩ => ?_) hs hpl))
  obtain ⟨a, b, xs, ys, ex, hqx, hqy, q⟩ := q1
  subst ex
  cases r1 with
  | cons r rr =>
    cases rr with
    | cons r' rr =>
      cases rr
      cases r
      cases r'
      obtain ⟨its, rv, p1, z1, la⟩ := Inv.src I1 hqx
      obtain ⟨its2, rv2, p2, z2, lb⟩ := Inv.src I1 hqy
      refine zip_begins2 (begS a its.toArray) (begS b its2.toArray) p1 p2 fun h' hz hTI hTO g1 g2 hsz hk => wpAny_pyIter_zip hz ?_
      have I2 : Inv X pins σ H1 { s1 with heap := h' } := I1.kept (t' := s1.toks) hk
      refine ⟨s1.heap.objs.size + 4, [s1.heap.objs.size + 4, s1.heap.objs.size + 2, s1.heap.objs.size + 3, s1.heap.objs.size, s1.heap.objs.size + 1], _, _, H1, rfl, I2,
        turn_zip2 (zip_sep2 (fp1 := [a.ad]) (fp2 := [b.ad]) (fun c hc => by rw [List.mem_singleton.mp hc]; exact la) fun c hc => by rw [List.mem_singleton.mp hc]; exact lb) (Nat.ne_of_lt la) (Nat.ne_of_lt (Nat.lt_succ_of_lt lb)), ⟨hz, hTI, ⟨_, _, hTO⟩, itS_new g1, itS_new g2⟩, fun c hcm => ?_, q z1 z2⟩
      have e' : c = s1.heap.objs.size + 4 ∨ c = s1.heap.objs.size + 2 ∨ c = s1.heap.objs.size + 3 ∨ c = s1.heap.objs.size ∨ c = s1.heap.objs.size + 1 := by simpa using hcm
      have hle : s1.heap.objs.size ≤ c := by
        rcases e' with z | z | z | z | z <;> rw [z] <;> first | exact Nat.le_add_right _ _ | exact Nat.le_refl _
      exact I1.fpOk hle (I1.hok.fresh hle)

/-- zip of three -/
def ItZ3 (K : PySem.W.Frag) (a b c : Src) : It :=
  ⟨fun i H => ∃ xs ys zs x y u, SqS K H a xs ∧ SqS K H b ys ∧ SqS K H c zs ∧ xs[i]? = some x ∧ ys[i]? = some y ∧ zs[i]? = some u,
    fun i H v H' => ∃ T x y u, v = .ref T ∧ H T = none ∧ H' = upd H T (.tup [x, y, u]) ∧ (∀ xs, SqS K H a xs → xs[i]? = some x) ∧ (∀ ys, SqS K H b ys → ys[i]? = some y) ∧ ∀ zs, SqS K H c zs → zs[i]? = some u,
    fun i H => ∃ xs ys zs, SqS K H a xs ∧ SqS K H b ys ∧ SqS K H c zs ∧ i = min (min xs.length ys.length) zs.length⟩
theorem turn_zip3 {P : Program} {w : World} {K : PySem.W.Frag} {elts : List Expr} {kk : Nat} {tpos : Pos} {a b d : Src} {z TI TO i1 i2 i3 : Addr} (S : ZipSep3 z TI TO i1 i2 i3 [i1, a.ad] [i2, b.ad] [i3, d.ad]) (n1 : a.ad ≠ i1) (n2 : b.ad ≠ i2) (n3 : d.ad ≠ i3) :
    Turn P w K (.Tuple elts kk tpos) (ItZ3 K a b d) [z, TI, TO, i1, i2, i3] z (fun i h => IsZip h z TI TO .none ∧ IsTupOf3 h TI (.ref i1) (.ref i2) (.ref i3) ∧ (∃ x y u, IsTupOf3 h TO x y u) ∧ itS h i1 a i ∧ itS h i2 b i ∧ itS h i3 d i) := by
  refine turn_gen (wr := [z, TO, i1, i2, i3]) (by simp) (fun b hb => by simp at hb ⊢; rcases hb with h | h | h | h | h <;> simp [h]) (fun i h st c hc => ?_) (fun i h h' st k => ?_) (fun X hP hw hK hc i pins s σ H I st hg => ?_) (fun X hP hw hK hc i pins s σ H I st hg => ?_) fun A i s Q E st h => wpAny_pyIter_zip st.1 h
  · obtain ⟨hz, hTI, ⟨x, y, u, hTO⟩, h1, h2, h3⟩ := st
    have e' : c = z ∨ c = TI ∨ c = TO ∨ c = i1 ∨ c = i2 ∨ c = i3 := by simpa using hc
    rcases e' with q | q | q | q | q | q
    · rw [q]; exact ⟨_, hz, fun v q => nomatch q⟩
    · rw [q]; exact ⟨_, hTI, fun v q => nomatch q⟩
    · rw [q]; exact ⟨_, hTO, fun v q => nomatch q⟩
    · rw [q]; exact itS_obj h1
    · rw [q]; exact itS_obj h2
    · rw [q]; exact itS_obj h3
  · obtain ⟨hz, hTI, ⟨x, y, u, hTO⟩, h1, h2, h3⟩ := st
    exact ⟨k z (by simp) _ hz, k TI (by simp) _ hTI, ⟨x, y, u, k TO (by simp) _ hTO⟩, itS_at h1 fun o q => k i1 (by simp) o q, itS_at h2 fun o q => k i2 (by simp) o q, itS_at h3 fun o q => k i3 (by simp) o q⟩
  · subst hP hw hK
    obtain ⟨hz, hTI, hTO, h1, h2, h3⟩ := st
    obtain ⟨xs, ys, zs, x, y, u, q1, q2, q3, e1, e2, e3⟩ := hg
    obtain ⟨its, r1, a1, z1, _⟩ := Inv.src I q1
    obtain ⟨jts, r2, a2, z2, _⟩ := Inv.src I q2
    obtain ⟨kts, r3, a3, z3, _⟩ := Inv.src I q3
    refine ⟨_, _, _, _, _, WalksT.zipD3 S (drawS (A := X.A.in1) (I.ok.hd hc) i1 a n1 its.toArray) (drawS (A := X.A.in1) (I.ok.hd hc) i2 b n2 jts.toArray) (drawS (A := X.A.in1) (I.ok.hd hc) i3 d n3 kts.toArray), ?_, ⟨hz, hTI, hTO, ⟨h1, a1⟩, ⟨h2, a2⟩, ⟨h3, a3⟩⟩, fun h st => ⟨st.1, st.2.1, st.2.2.1, st.2.2.2.1.1, st.2.2.2.2.1.1, st.2.2.2.2.2.1⟩, fun vals hv => ?_⟩
    · have l1 := r1.length
      have l2 := r2.length
      have l3 := r3.length
      have := (List.getElem?_eq_some_iff.mp e1).1
      have := (List.getElem?_eq_some_iff.mp e2).1
      have := (List.getElem?_eq_some_iff.mp e3).1
      simp only [List.size_toArray]
      omega
    · obtain ⟨u1, u2, u3, p1, p2, p3, rfl⟩ := hv
      obtain ⟨v1, g1, rv1⟩ := vals_get r1 p1
      obtain ⟨v2, g2, rv2⟩ := vals_get r2 p2
      obtain ⟨v3, g3, rv3⟩ := vals_get r3 p3
      refine ⟨[v1, v2, v3], .cons rv1 (.cons rv2 (.cons rv3 .nil)), by show 3 ≤ sizeLine; decide, fun T hT => ⟨T, v1, v2, v3, rfl, hT, rfl, fun xs' h' => ?_, fun ys' h' => ?_, fun zs' h' => ?_⟩⟩
      · rw [Inv.src_inj I h' q1]; exact g1
      · rw [Inv.src_inj I h' q2]; exact g2
      · rw [Inv.src_inj I h' q3]; exact g3
  · subst hP hw hK
    obtain ⟨hz, hTI, hTO, h1, h2, h3⟩ := st
    obtain ⟨xs, ys, zs, q1, q2, q3, ei⟩ := hg
    obtain ⟨its, r1, a1, z1, _⟩ := Inv.src I q1
    obtain ⟨jts, r2, a2, z2, _⟩ := Inv.src I q2
    obtain ⟨kts, r3, a3, z3, _⟩ := Inv.src I q3
    have W := WalksT.zipD3 S (drawS (prog := X.prog) (w := X.w) (A := X.A.in1) (I.ok.hd hc) i1 a n1 its.toArray) (drawS (A := X.A.in1) (I.ok.hd hc) i2 b n2 jts.toArray) (drawS (A := X.A.in1) (I.ok.hd hc) i3 d n3 kts.toArray)
    have en : min (min its.toArray.size jts.toArray.size) kts.toArray.size = i := by
      have l1 := r1.length
      have l2 := r2.length
      have l3 := r3.length
      simp only [List.size_toArray]
      omega
    rw [en] at W
    exact ⟨_, _, _, _, W, ⟨hz, hTI, hTO, ⟨h1, a1⟩, ⟨h2, a2⟩, ⟨h3, a3⟩⟩⟩
def rZ3 (K : PySem.W.Frag) (ta : TA) : TI := fun σ H Rr => ta σ H fun vs H1 => ∃ (a b c : Src) (xs ys zs : List V), vs = [.ref a.ad, .ref b.ad, .ref c.ad] ∧ SqS K H1 a xs ∧ SqS K H1 b ys ∧ SqS K H1 c zs ∧ (xs.length ≤ sizeLine → ys.length ≤ sizeLine → zs.length ≤ sizeLine → Rr (ItZ3 K a b c) H1)
theorem pi_zip3 {X : Cx} {e e2 e3 : Expr} {ta : TA} {p pos tpos : Pos} {elts : List Expr} {kk : Nat} (hg : Gl X "zip") (hm : X.mg "zip" = none) (ha : PA X [e, e2, e3] ta)
    (hs : starEach [e, e2, e3] X.env = (false, eval e X.env) :: starEach [e2, e3] X.env := by rfl) (hpl : (backTo pos (starEach [e2, e3] X.env)).any (·.1) = false := by rfl) :
    PI X (.Tuple elts kk tpos) (.Call (.Name "zip" p) [e, e2, e3] [] pos) (rZ3 X.K ta) := by
  refine ⟨fun pins s σ H R I h => ?_⟩
  refine Call_ (ld_blt I hg hm PyProof.Rows.boot_zip (PyProof.Rows.callWith_type1 (thn (ha.run pos pins s σ H _ I h) fun us s1 ⟨vs, H1, I1, r1, q1⟩ => ?_) hs hpl))
  obtain ⟨a, b, c, xs, ys, zs, ex, hqx, hqy, hqz, q⟩ := q1
  subst ex
  cases r1 with
  | cons r rr =>
    cases rr with
    | cons r' rr =>
      cases rr with
      | cons r2 rr =>
        cases rr
        cases r
        cases r'
        cases r2
        obtain ⟨its, rv, p1, z1, la⟩ := Inv.src I1 hqx
        obtain ⟨its2, rv2, p2, z2, lb⟩ := Inv.src I1 hqy
        obtain ⟨its3, rv3, p3, z3, lc⟩ := Inv.src I1 hqz
        refine zip_begins3 (begS a its.toArray) (begS b its2.toArray) (begS c its3.toArray) p1 p2 p3 fun h' hz hTI hTO g1 g2 g3 hsz hk => wpAny_pyIter_zip hz ?_
        have I2 : Inv X pins σ H1 { s1 with heap := h' } := I1.kept (t' := s1.toks) hk
        refine ⟨s1.heap.objs.size + 5, [s1.heap.objs.size + 5, s1.heap.objs.size + 3, s1.heap.objs.size + 4, s1.heap.objs.size, s1.heap.objs.size + 1, s1.heap.objs.size + 2], _, _, H1, rfl, I2,
          turn_zip3 (zip_sep3 (fp1 := [a.ad]) (fp2 := [b.ad]) (fp3 := [c.ad]) (fun c hc => by rw [List.mem_singleton.mp hc]; exact la) (fun c hc => by rw [List.mem_singleton.mp hc]; exact lb) fun c hc => by rw [List.mem_singleton.mp hc]; exact lc) (Nat.ne_of_lt la) (Nat.ne_of_lt (Nat.lt_succ_of_lt lb)) (Nat.ne_of_lt (Nat.lt_succ_of_lt (Nat.lt_succ_of_lt lc))), ⟨hz, hTI, ⟨_, _, _, hTO⟩, itS_new g1, itS_new g2, itS_new g3⟩, fun c hcm => ?_, q z1 z2 z3⟩
        have e' : c = s1.heap.objs.size + 5 ∨ c = s1.heap.objs.size + 3 ∨ c = s1.heap.objs.size + 4 ∨ c = s1.heap.objs.size ∨ c = s1.heap.objs.size + 1 ∨ c = s1.heap.objs.size + 2 := by simpa using hcm
        have hle : s1.heap.objs.size ≤ c := by
          rcases e' with z | z | z | z | z | z <;> rw [z] <;> first | exact Nat.le_add_right _ _ | exact Nat.le_refl _
        exact I1.fpOk hle (I1.hok.fresh hle)
/-- enumerate -/
def ItE (K : PySem.W.Frag) (a : Src) : It :=
  ⟨fun i H => ∃ xs x, SqS K H a xs ∧ xs[i]? = some x,
    fun i H v H' => ∃ T x, v = .ref T ∧ H T = none ∧ H' = upd H T (.tup [.int (i : Nat), x]) ∧ (∀ xs, SqS K H a xs → xs[i]? = some x),
    fun i H => ∃ xs, SqS K H a xs ∧ i = xs.length⟩
theorem turn_enumS {P : Program} {w : World} {K : PySem.W.Frag} {elts : List Expr} {kk : Nat} {tpos : Pos} {a : Src} {z it : Addr} (ne : z ≠ it) (nz : z ≠ a.ad) (n1 : a.ad ≠ it) :
    Turn P w K (.Tuple elts kk tpos) (ItE K a) [z, it] z (fun i h => (∃ old, IsEnum h z it ((0 : Int) + ((i : Nat) : Int)) old) ∧ itS h it a i) := by
  refine turn_gen (wr := [z, it]) (by simp) (fun b hb => hb) (fun i h st c hc => ?_) (fun i h h' st k => ?_) (fun X hP hw hK hc i pins s σ H I st hg => ?_) (fun X hP hw hK hc i pins s σ H I st hg => ?_) fun A i s Q E st h => by obtain ⟨⟨old, e⟩, _⟩ := st; exact wpAny_pyIter_enum e h
  · obtain ⟨⟨old, he⟩, h1⟩ := st
    have e' : c = z ∨ c = it := by simpa using hc
    rcases e' with q | q
    · rw [q]; exact ⟨_, he, fun v q => nomatch q⟩
    · rw [q]; exact itS_obj h1
  · obtain ⟨⟨old, he⟩, h1⟩ := st
    exact ⟨⟨old, k z (by simp) _ he⟩, itS_at h1 fun o q => k it (by simp) o q⟩
  · subst hP hw hK
    obtain ⟨he, h1⟩ := st
    obtain ⟨xs, x, q1, e1⟩ := hg
    obtain ⟨its, r1, a1, z1, _⟩ := Inv.src I q1
    have hef : z ∉ [it, a.ad] := by simp [ne, nz]
    refine ⟨_, _, _, _, _, WalksT.enumFrom 0 (drawS (A := X.A.in1) (I.ok.hd hc) it a n1 its.toArray) z ne hef (by simp), ?_, ⟨he, ⟨h1, a1⟩⟩, fun h st => ⟨st.1, st.2.1⟩, fun vals hv => ?_⟩
    · have l1 := r1.length
      have := (List.getElem?_eq_some_iff.mp e1).1
      simp only [List.size_toArray]
      omega
    · obtain ⟨t, u1, p1, rfl⟩ := hv
      obtain ⟨v1, g1, rv1⟩ := vals_get r1 p1
      refine ⟨[.int (i : Nat), v1], .cons ⟨t, by rw [Int.zero_add]⟩ (.cons rv1 .nil), by show 2 ≤ sizeLine; decide, fun T hT => ⟨T, v1, rfl, hT, rfl, fun xs' h' => ?_⟩⟩
      rw [Inv.src_inj I h' q1]; exact g1
  · subst hP hw hK
    obtain ⟨he, h1⟩ := st
    obtain ⟨xs, q1, ei⟩ := hg
    obtain ⟨its, r1, a1, z1, _⟩ := Inv.src I q1
    have hef : z ∉ [it, a.ad] := by simp [ne, nz]
    have W := WalksT.enumFrom 0 (drawS (prog := X.prog) (w := X.w) (A := X.A.in1) (I.ok.hd hc) it a n1 its.toArray) z ne hef (by simp)
    have en : its.toArray.size = i := by
      have l1 := r1.length
      simp only [List.size_toArray]
      omega
    rw [en] at W
    exact ⟨_, _, _, _, W, ⟨he, ⟨h1, a1⟩⟩⟩
def rEn (K : PySem.W.Frag) (ta : TA) : TI := fun σ H Rr => ta σ H fun vs H1 => ∃ (a : Src) (xs : List V), vs = [.ref a.ad] ∧ SqS K H1 a xs ∧ (xs.length ≤ sizeLine → Rr (ItE K a) H1)
theorem pi_enumS {X : Cx} {e : Expr} {ta : TA} {p pos tpos : Pos} {elts : List Expr} {kk : Nat} (hg : Gl X "enumerate") (hm : X.mg "enumerate" = none) (ha : PA X [e] ta) (hs : starEach [e] X.env = [(false, eval e X.env)] := by rfl) :
    PI X (.Tuple elts kk tpos) (.Call (.Name "enumerate" p) [e] [] pos) (rEn X.K ta) := by
  refine ⟨fun pins s σ H R I h => ?_⟩
  refine Call_ (ld_blt I hg hm boot_enumerate (PyProof.Rows.callWith_type1 (thn (ha.run pos pins s σ H _ I h) fun us s1 ⟨vs, H1, I1, r1, q1⟩ => ?_) hs rfl))
  obtain ⟨a, xs, ex, hqx, q⟩ := q1
  subst ex
  cases r1 with
  | cons r rr =>
    cases rr
    cases r
    obtain ⟨its, rv, p1, z1, la⟩ := Inv.src I1 hqx
    refine enum_begins1 (begS a its.toArray) p1 fun h' he g1 hsz hk => wpAny_pyIter_enum he ?_
    have I2 : Inv X pins σ H1 { s1 with heap := h' } := I1.kept (t' := s1.toks) hk
    refine ⟨s1.heap.objs.size + 1, [s1.heap.objs.size + 1, s1.heap.objs.size], _, _, H1, rfl, I2, turn_enumS (Nat.succ_ne_self _) (Nat.ne_of_gt (Nat.lt_succ_of_lt la)) (Nat.ne_of_lt la), ⟨⟨.none, he⟩, itS_new g1⟩, fun c hcm => ?_, q z1⟩
    have e' : c = s1.heap.objs.size + 1 ∨ c = s1.heap.objs.size := by simpa using hcm
    have hle : s1.heap.objs.size ≤ c := by
      rcases e' with z | z <;> rw [z] <;> first | exact Nat.le_add_right _ _ | exact Nat.le_refl _
    exact I1.fpOk hle (I1.hok.fresh hle)
end PL
set_option Elab.async false
set_option linter.all false
set_option maxRecDepth 100000
set_option maxHeartbeats 4000000
/-! PLl: zip, enumerate as what is walked; defs by their bodies. -/
namespace PL
open PySem PySem.Spec PyProof.Rows L2

def zipP : List PV → List PV → List PV
  | x :: xs, y :: ys => .tup [x, y] :: zipP xs ys
  | _, _ => []
def zip3P : List PV → List PV → List PV → List PV
  | x :: xs, y :: ys, z :: zs => .tup [x, y, z] :: zip3P xs ys zs
  | _, _, _ => []
def enumP : Nat → List PV → List PV
  | i, x :: xs => .tup [.int (i : Nat), x] :: enumP (i + 1) xs
  | _, [] => []
theorem zipP_len : ∀ xs ys : List PV, (zipP xs ys).length = min xs.length ys.length
  | [], ys => by simp [zipP]
  | _ :: _, [] => by simp [zipP]
  | x :: xs, y :: ys => by rw [zipP, List.length_cons, zipP_len, List.length_cons, List.length_cons]; omega
theorem zip3P_len : ∀ xs ys zs : List PV, (zip3P xs ys zs).length = min (min xs.length ys.length) zs.length
  | [], ys, zs => by simp [zip3P]
  | _ :: _, [], zs => by simp [zip3P]
  | _ :: _, _ :: _, [] => by simp [zip3P]
  | x :: xs, y :: ys, z :: zs => by rw [zip3P, List.length_cons, zip3P_len]; simp only [List.length_cons]; omega
theorem enumP_len : ∀ (i : Nat) (xs : List PV), (enumP i xs).length = xs.length
  | _, [] => rfl
  | i, x :: xs => by rw [enumP, List.length_cons, enumP_len, List.length_cons]
theorem zipP_get : ∀ {xs ys : List PV} {i : Nat} {x y : PV}, xs[i]? = some x → ys[i]? = some y → (zipP xs ys)[i]? = some (.tup [x, y])
  | [], _, _, _, _, h, _ => by simp at h
  | _ :: _, [], _, _, _, _, h => by simp at h
  | a :: xs, b :: ys, 0, x, y, h1, h2 => by simp at h1 h2; subst h1 h2; rfl
  | a :: xs, b :: ys, i + 1, x, y, h1, h2 => by
    rw [zipP, List.getElem?_cons_succ]
    exact zipP_get (by simpa using h1) (by simpa using h2)
theorem zip3P_get : ∀ {xs ys zs : List PV} {i : Nat} {x y z : PV}, xs[i]? = some x → ys[i]? = some y → zs[i]? = some z → (zip3P xs ys zs)[i]? = some (.tup [x, y, z])
  | [], _, _, _, _, _, _, h, _, _ => by simp at h
  | _ :: _, [], _, _, _, _, _, _, h, _ => by simp at h
  | _ :: _, _ :: _, [], _, _, _, _, _, _, h => by simp at h
  | a :: xs, b :: ys, c :: zs, 0, x, y, z, h1, h2, h3 => by simp at h1 h2 h3; subst h1 h2 h3; rfl
  | a :: xs, b :: ys, c :: zs, i + 1, x, y, z, h1, h2, h3 => by
    rw [zip3P, List.getElem?_cons_succ]
    exact zip3P_get (by simpa using h1) (by simpa using h2) (by simpa using h3)
theorem enumP_get : ∀ {xs : List PV} {j i : Nat} {x : PV}, xs[i]? = some x → (enumP j xs)[i]? = some (.tup [.int ((j + i : Nat)), x])
  | [], _, _, _, h => by simp at h
  | a :: xs, j, 0, x, h => by simp at h; subst h; rfl
  | a :: xs, j, i + 1, x, h => by
    rw [enumP, List.getElem?_cons_succ, enumP_get (j := j + 1) (i := i) (by simpa using h)]
    rw [show j + 1 + i = j + (i + 1) by omega]
def iZip2 (fs : PFs) : PIF := fun ρ => (fs ρ).bind fun x => match x.1 with
  | [r, s] => (seqOf (tmpOf r)).bind fun xs => (seqOf (tmpOf s)).map fun ys => (zipP xs ys, [r, s], x.2)
  | _ => none
def iZip3 (fs : PFs) : PIF := fun ρ => (fs ρ).bind fun x => match x.1 with
  | [r, s, t] => (seqOf (tmpOf r)).bind fun xs => (seqOf (tmpOf s)).bind fun ys => (seqOf (tmpOf t)).map fun zs => (zip3P xs ys zs, [r, s, t], x.2)
  | _ => none
def iEnum (fs : PFs) : PIF := fun ρ => (fs ρ).bind fun x => match x.1 with
  | [r] => (seqOf (tmpOf r)).map fun xs => (enumP 0 xs, [r], x.2)
  | _ => none
section
variable {X : Cx} {R : RE} {a b c : Expr} {fs : PFs} {p pos tpos : Pos} {elts : List Expr} {kk : Nat}
theorem RpL.get2 {F : Hp} {ps : List PV} {vs : List V} (h : RpL R F ps vs) {i : Nat} (hi : i < ps.length) : ∃ p v, ps[i]? = some p ∧ vs[i]? = some v ∧ Rp R F p v := by
  obtain ⟨v, h1, h2⟩ := h.get' (List.getElem?_eq_getElem hi)
  exact ⟨_, v, List.getElem?_eq_getElem hi, h1, h2⟩
theorem iv_zip2 (hK : R.K = X.K) (hg : Gl X "zip") (hm : X.mg "zip" = none) (h : Av X R [a, b] fs)
    (hs : starEach [a, b] X.env = (false, eval a X.env) :: starEach [b] X.env := by rfl) (hpl : (backTo pos (starEach [b] X.env)).any (·.1) = false := by rfl) :
    Iv X R (.Tuple elts kk tpos) (.Call (.Name "zip" p) [a, b] [] pos) (iZip2 fs) := by
  have key : ∀ {ρ ρ' : List Sl} {items : List PV} {rs : List Sl}, iZip2 fs ρ = some (items, rs, ρ') → ∃ r s xs ys, fs ρ = some ([r, s], ρ') ∧ seqOf (tmpOf r) = some xs ∧ seqOf (tmpOf s) = some ys ∧ items = zipP xs ys ∧ rs = [r, s] := by
    intro ρ ρ' items rs q
    unfold iZip2 at q
    rw [Option.bind_eq_some_iff] at q
    obtain ⟨⟨l, ρ1⟩, h1, q⟩ := q
    split at q
    · rename_i r s e1
      dsimp only at e1
      subst e1
      rw [Option.bind_eq_some_iff] at q
      obtain ⟨xs, h2, q⟩ := q
      rw [Option.map_eq_some_iff] at q
      obtain ⟨ys, h3, q⟩ := q
      cases q
      exact ⟨r, s, xs, ys, h1, h2, h3, rfl, rfl⟩
    · cases q
  refine ⟨fun ρ a b ρ' q => ?_, pi_mono (pi_zip2 hg hm h.pa hs hpl) fun σ H Q q => ?_⟩
  · obtain ⟨r, s, xs, ys, h1, _⟩ := key q
    exact h.len _ _ _ h1
  · obtain ⟨e, F, ρ, tm, items, rs, ρ', hl, hB, hf, k⟩ := q
    obtain ⟨r, s, xs, ys, h1, h2, h3, rfl, rfl⟩ := key hf
    refine ⟨e, F, ρ, tm, _, ρ', hl, hB, h1, fun vs H1 F1 B1 k1 => ?_⟩
    match vs, Paired.len k1 with
    | [v1, v2], _ =>
      have e1 : ([r, s].map tmpOf).zip ([v1, v2].map some) = [(tmpOf r, some v1), (tmpOf s, some v2)] := rfl
      rw [e1] at B1
      have at1 : ∀ {e' : En} {F' H' : Hp} {B : Bg}, Bag R e' F' H' (B ++ [(tmpOf r, some v1), (tmpOf s, some v2)]) → SlR R F' H' (tmpOf r) (some v1) ∧ SlR R F' H' (tmpOf s) (some v2) := fun hB => ⟨hB.mem (p := (tmpOf r, some v1)) (by simp), hB.mem (p := (tmpOf s, some v2)) (by simp)⟩
      obtain ⟨x1, x2⟩ := at1 B1
      obtain ⟨s1, ex1, kd1⟩ := src_of' x1 B1.sub h2
      obtain ⟨s2, ex2, kd2⟩ := src_of' x2 B1.sub h3
      subst ex1 ex2
      obtain ⟨ws1, hq1, hr1⟩ := src_now kd1 h2 x1 B1.sub
      obtain ⟨ws2, hq2, hr2⟩ := src_now kd2 h3 x2 B1.sub
      rw [hK] at hq1 hq2
      refine ⟨s1, s2, ws1, ws2, rfl, hq1, hq2, fun z1 z2 => ?_⟩
      refine k _ H1 F1 [.ref s1.ad, .ref s2.ad] B1 k1 (fun e' F' H' B i hB' => ?_) (by rw [zipP_len, hr1.length]; omega)
      obtain ⟨y1, y2⟩ := at1 hB'
      obtain ⟨us1, w1, rr1⟩ := src_now kd1 h2 y1 hB'.sub
      obtain ⟨us2, w2, rr2⟩ := src_now kd2 h3 y2 hB'.sub
      rw [hK] at w1 w2
      rw [zipP_len]
      refine ⟨fun hi => ?_, fun hi => ⟨us1, us2, w1, w2, by rw [hi, rr1.length, rr2.length]⟩⟩
      obtain ⟨p1, t1, g1, g1', rp1⟩ := rr1.get2 (i := i) (by omega)
      obtain ⟨p2, t2, g2, g2', rp2⟩ := rr2.get2 (i := i) (by omega)
      refine ⟨⟨us1, us2, t1, t2, w1, w2, g1', g2'⟩, fun v H2 y => ?_⟩
      obtain ⟨T, a1, a2, rfl, nT, rfl, f1, f2⟩ := y
      have b1 := f1 us1 w1
      have b2 := f2 us2 w2
      rw [g1'] at b1
      rw [g2'] at b2
      cases b1
      cases b2
      refine ⟨.tup [p1, p2], _, zipP_get g1 g2, hB'.lay_ice nT, .tup (.inl upd_same) (.cons ?_ (.cons ?_ .nil))⟩
      · exact rp1.mono (sub_upd (hB'.new nT).1)
      · exact rp2.mono (sub_upd (hB'.new nT).1)
theorem iv_zip3 (hK : R.K = X.K) (hg : Gl X "zip") (hm : X.mg "zip" = none) (h : Av X R [a, b, c] fs)
    (hs : starEach [a, b, c] X.env = (false, eval a X.env) :: starEach [b, c] X.env := by rfl) (hpl : (backTo pos (starEach [b, c] X.env)).any (·.1) = false := by rfl) :
    Iv X R (.Tuple elts kk tpos) (.Call (.Name "zip" p) [a, b, c] [] pos) (iZip3 fs) := by
  have key : ∀ {ρ ρ' : List Sl} {items : List PV} {rs : List Sl}, iZip3 fs ρ = some (items, rs, ρ') → ∃ r s t xs ys zs, fs ρ = some ([r, s, t], ρ') ∧ seqOf (tmpOf r) = some xs ∧ seqOf (tmpOf s) = some ys ∧ seqOf (tmpOf t) = some zs ∧ items = zip3P xs ys zs ∧ rs = [r, s, t] := by
    intro ρ ρ' items rs q
    unfold iZip3 at q
    rw [Option.bind_eq_some_iff] at q
    obtain ⟨⟨l, ρ1⟩, h1, q⟩ := q
    split at q
    · rename_i r s t e1
      dsimp only at e1
      subst e1
      rw [Option.bind_eq_some_iff] at q
      obtain ⟨xs, h2, q⟩ := q
      rw [Option.bind_eq_some_iff] at q
      obtain ⟨ys, h3, q⟩ := q
      rw [Option.map_eq_some_iff] at q
      obtain ⟨zs, h4, q⟩ := q
      cases q
      exact ⟨r, s, t, xs, ys, zs, h1, h2, h3, h4, rfl, rfl⟩
    · cases q
  refine ⟨fun ρ a b ρ' q => ?_, pi_mono (pi_zip3 hg hm h.pa hs hpl) fun σ H Q q => ?_⟩
  · obtain ⟨r, s, t, xs, ys, zs, h1, _⟩ := key q
    exact h.len _ _ _ h1
  · obtain ⟨e, F, ρ, tm, items, rs, ρ', hl, hB, hf, k⟩ := q
    obtain ⟨r, s, t, xs, ys, zs, h1, h2, h3, h4, rfl, rfl⟩ := key hf
    refine ⟨e, F, ρ, tm, _, ρ', hl, hB, h1, fun vs H1 F1 B1 k1 => ?_⟩
    match vs, Paired.len k1 with
    | [v1, v2, v3], _ =>
      have e1 : ([r, s, t].map tmpOf).zip ([v1, v2, v3].map some) = [(tmpOf r, some v1), (tmpOf s, some v2), (tmpOf t, some v3)] := rfl
      rw [e1] at B1
      have at1 : ∀ {e' : En} {F' H' : Hp} {B : Bg}, Bag R e' F' H' (B ++ [(tmpOf r, some v1), (tmpOf s, some v2), (tmpOf t, some v3)]) → SlR R F' H' (tmpOf r) (some v1) ∧ SlR R F' H' (tmpOf s) (some v2) ∧ SlR R F' H' (tmpOf t) (some v3) :=
        fun hB => ⟨hB.mem (p := (tmpOf r, some v1)) (by simp), hB.mem (p := (tmpOf s, some v2)) (by simp), hB.mem (p := (tmpOf t, some v3)) (by simp)⟩
      obtain ⟨x1, x2, x3⟩ := at1 B1
      obtain ⟨s1, ex1, kd1⟩ := src_of' x1 B1.sub h2
      obtain ⟨s2, ex2, kd2⟩ := src_of' x2 B1.sub h3
      obtain ⟨s3, ex3, kd3⟩ := src_of' x3 B1.sub h4
      subst ex1 ex2 ex3
      obtain ⟨ws1, hq1, hr1⟩ := src_now kd1 h2 x1 B1.sub
      obtain ⟨ws2, hq2, hr2⟩ := src_now kd2 h3 x2 B1.sub
      obtain ⟨ws3, hq3, hr3⟩ := src_now kd3 h4 x3 B1.sub
      rw [hK] at hq1 hq2 hq3
      refine ⟨s1, s2, s3, ws1, ws2, ws3, rfl, hq1, hq2, hq3, fun z1 z2 z3 => ?_⟩
      refine k _ H1 F1 [.ref s1.ad, .ref s2.ad, .ref s3.ad] B1 k1 (fun e' F' H' B i hB' => ?_) (by rw [zip3P_len, hr1.length]; omega)
      obtain ⟨y1, y2, y3⟩ := at1 hB'
      obtain ⟨us1, w1, rr1⟩ := src_now kd1 h2 y1 hB'.sub
      obtain ⟨us2, w2, rr2⟩ := src_now kd2 h3 y2 hB'.sub
      obtain ⟨us3, w3, rr3⟩ := src_now kd3 h4 y3 hB'.sub
      rw [hK] at w1 w2 w3
      rw [zip3P_len]
      refine ⟨fun hi => ?_, fun hi => ⟨us1, us2, us3, w1, w2, w3, by rw [hi, rr1.length, rr2.length, rr3.length]⟩⟩
      obtain ⟨p1, t1, g1, g1', rp1⟩ := rr1.get2 (i := i) (by omega)
      obtain ⟨p2, t2, g2, g2', rp2⟩ := rr2.get2 (i := i) (by omega)
      obtain ⟨p3, t3, g3, g3', rp3⟩ := rr3.get2 (i := i) (by omega)
      refine ⟨⟨us1, us2, us3, t1, t2, t3, w1, w2, w3, g1', g2', g3'⟩, fun v H2 y => ?_⟩
      obtain ⟨T, a1, a2, a3, rfl, nT, rfl, f1, f2, f3⟩ := y
      have b1 := f1 us1 w1
      have b2 := f2 us2 w2
      have b3 := f3 us3 w3
      rw [g1'] at b1
      rw [g2'] at b2
      rw [g3'] at b3
      cases b1
      cases b2
      cases b3
      have sb := sub_upd (o := .tup [t1, t2, t3]) (hB'.new nT).1
      exact ⟨.tup [p1, p2, p3], _, zip3P_get g1 g2 g3, hB'.lay_ice nT, .tup (.inl upd_same) (.cons (rp1.mono sb) (.cons (rp2.mono sb) (.cons (rp3.mono sb) .nil)))⟩
theorem iv_enum (hK : R.K = X.K) (hg : Gl X "enumerate") (hm : X.mg "enumerate" = none) (h : Av X R [a] fs) (hs : starEach [a] X.env = [(false, eval a X.env)] := by rfl) :
    Iv X R (.Tuple elts kk tpos) (.Call (.Name "enumerate" p) [a] [] pos) (iEnum fs) := by
  have key : ∀ {ρ ρ' : List Sl} {items : List PV} {rs : List Sl}, iEnum fs ρ = some (items, rs, ρ') → ∃ r xs, fs ρ = some ([r], ρ') ∧ seqOf (tmpOf r) = some xs ∧ items = enumP 0 xs ∧ rs = [r] := by
    intro ρ ρ' items rs q
    unfold iEnum at q
    rw [Option.bind_eq_some_iff] at q
    obtain ⟨⟨l, ρ1⟩, h1, q⟩ := q
    split at q
    · rename_i r e1
      dsimp only at e1
      subst e1
      rw [Option.map_eq_some_iff] at q
      obtain ⟨xs, h2, q⟩ := q
      cases q
      exact ⟨r, xs, h1, h2, rfl, rfl⟩
    · cases q
  refine ⟨fun ρ a b ρ' q => ?_, pi_mono (pi_enumS hg hm h.pa hs) fun σ H Q q => ?_⟩
  · obtain ⟨r, xs, h1, _⟩ := key q
    exact h.len _ _ _ h1
  · obtain ⟨e, F, ρ, tm, items, rs, ρ', hl, hB, hf, k⟩ := q
    obtain ⟨r, xs, h1, h2, rfl, rfl⟩ := key hf
    refine ⟨e, F, ρ, tm, _, ρ', hl, hB, h1, fun vs H1 F1 B1 k1 => ?_⟩
    match vs, Paired.len k1 with
    | [v1], _ =>
      have e1 : ([r].map tmpOf).zip ([v1].map some) = [(tmpOf r, some v1)] := rfl
      rw [e1] at B1
      have at1 : ∀ {e' : En} {F' H' : Hp} {B : Bg}, Bag R e' F' H' (B ++ [(tmpOf r, some v1)]) → SlR R F' H' (tmpOf r) (some v1) := fun hB => hB.mem (p := (tmpOf r, some v1)) (by simp)
      have x1 := at1 B1
      obtain ⟨s1, ex1, kd1⟩ := src_of' x1 B1.sub h2
      subst ex1
      obtain ⟨ws1, hq1, hr1⟩ := src_now kd1 h2 x1 B1.sub
      rw [hK] at hq1
      refine ⟨s1, ws1, rfl, hq1, fun z1 => ?_⟩
      refine k _ H1 F1 [.ref s1.ad] B1 k1 (fun e' F' H' B i hB' => ?_) (by rw [enumP_len, hr1.length]; omega)
      have y1 := at1 hB'
      obtain ⟨us1, w1, rr1⟩ := src_now kd1 h2 y1 hB'.sub
      rw [hK] at w1
      rw [enumP_len]
      refine ⟨fun hi => ?_, fun hi => ⟨us1, w1, by rw [hi, rr1.length]⟩⟩
      obtain ⟨p1, t1, g1, g1', rp1⟩ := rr1.get2 (i := i) (by omega)
      refine ⟨⟨us1, t1, w1, g1'⟩, fun v H2 y => ?_⟩
      obtain ⟨T, a1, rfl, nT, rfl, f1⟩ := y
      have b1 := f1 us1 w1
      rw [g1'] at b1
      cases b1
      have sb := sub_upd (o := .tup [.int (i : Nat), t1]) (hB'.new nT).1
      refine ⟨.tup [.int ((0 + i : Nat)), p1], _, enumP_get (j := 0) g1, hB'.lay_ice nT, .tup (.inl upd_same) (.cons ?_ (.cons (rp1.mono sb) .nil))⟩
      rw [Nat.zero_add]
      exact .int _
end

/-! ### defs -/
def prepP : List Bool → List Sl → List Sl
  | true :: m, s :: ss => (match valOf s with | some p => .fz p | none => .un) :: prepP m ss
  | false :: m, s :: ss => s :: prepP m ss
  | _, ss => ss
def finP : List Bool → List Sl → List Sl → List Sl
  | true :: m, p :: ps, _ :: ρ => p :: finP m ps ρ
  | false :: m, _ :: ps, s :: ρ => s :: finP m ps ρ
  | _, _, _ => []
/-- a def by its body: n parameters of N names; rs: which parameters are bound anew in the body (theirs are frozen) -/
def fnF (N : Nat) (rs : List Bool) (body : PSF) : FP := fun as => (body (prepP rs as ++ List.replicate (N - rs.length) .un)).bind fun x => match x.1 with
  | .rt v => some (v, finP rs (prepP rs as) x.2)
  | .nx => some (.fz .non, finP rs (prepP rs as) x.2)
  | _ => none
theorem prepP_len : ∀ (m : List Bool) (as : List Sl), (prepP m as).length = as.length
  | [], as => by unfold prepP; rfl
  | true :: m, [] => by unfold prepP; rfl
  | false :: m, [] => by unfold prepP; rfl
  | true :: m, s :: ss => by unfold prepP; rw [List.length_cons, List.length_cons, prepP_len m ss]
  | false :: m, s :: ss => by unfold prepP; rw [List.length_cons, List.length_cons, prepP_len m ss]
theorem finP_len : ∀ (m : List Bool) (ps ρ : List Sl), m.length = ps.length → ps.length ≤ ρ.length → (finP m ps ρ).length = ps.length
  | [], [], ρ, _, _ => by unfold finP; rfl
  | [], _ :: _, _, h, _ => by cases h
  | _ :: _, [], _, h, _ => by cases h
  | b :: m, p :: ps, [], _, h => by simp at h
  | b :: m, p :: ps, s :: ρ, h1, h2 => by
    cases b <;> (unfold finP; rw [List.length_cons, List.length_cons, finP_len m ps ρ (by simpa using h1) (by simpa using h2)])
theorem finP_get : ∀ {m : List Bool} {ps ρ : List Sl} {i : Nat} {s : Sl}, m.length = ps.length → ps.length ≤ ρ.length → (finP m ps ρ)[i]? = some s → (m[i]? = some true ∧ ps[i]? = some s) ∨ (m[i]? = some false ∧ ρ[i]? = some s)
  | [], [], ρ, i, s, _, _, h => by unfold finP at h; simp at h
  | [], _ :: _, _, _, _, h, _, _ => by cases h
  | _ :: _, [], _, _, _, h, _, _ => by cases h
  | b :: m, p :: ps, [], _, _, _, h, _ => by simp at h
  | b :: m, p :: ps, t :: ρ, 0, s, h1, h2, h => by
    cases b
    · unfold finP at h; simp at h; subst h; exact .inr ⟨rfl, rfl⟩
    · unfold finP at h; simp at h; subst h; exact .inl ⟨rfl, rfl⟩
  | b :: m, p :: ps, t :: ρ, i + 1, s, h1, h2, h => by
    have h' : (finP m ps ρ)[i]? = some s := by cases b <;> (unfold finP at h; simpa using h)
    have := finP_get (m := m) (ps := ps) (ρ := ρ) (i := i) (by simpa using h1) (by simpa using h2) h'
    simpa using this
section
variable {R : RE} {e : En} {F H : Hp}
theorem Bag.more {B : Bg} (h : Bag R e F H B) : ∀ {C : Bg}, (∀ p ∈ C, adr p.1 p.2 = none ∧ SlR R F H p.1 p.2) → Bag R e F H (B ++ C) := by
  intro C
  induction C generalizing B with
  | nil => intro _; rw [List.append_nil]; exact h
  | cons p C ih =>
    intro hc
    have h1 : Bag R e F H (B ++ [p]) := by
      obtain ⟨s, o⟩ := p
      obtain ⟨n, q⟩ := hc _ List.mem_cons_self
      exact h.push q n
    have := ih h1 fun q hq => hc q (List.mem_cons_of_mem _ hq)
    rw [List.append_assoc] at this
    exact this
/-- the masked parameters frozen -/
theorem Bag.prep {vs : List (Option V)} : ∀ {m : List Bool} {as : List Sl} {F : Hp} {B : Bg} {us : List (Option V)}, as.length = us.length → Bag R e F H (B ++ as.zip us) → ∃ F', Sub F F' ∧ Bag R e F' H (B ++ (prepP m as).zip us)
  | [], as, F, B, us, _, h => ⟨F, .refl, by unfold prepP; exact h⟩
  | true :: m, [], F, B, us, _, h => ⟨F, .refl, by unfold prepP; exact h⟩
  | false :: m, [], F, B, us, _, h => ⟨F, .refl, by unfold prepP; exact h⟩
  | b :: m, s :: ss, F, B, [], l, h => by cases l
  | false :: m, s :: ss, F, B, u :: us, l, h => by
    rw [List.zip_cons_cons] at h
    have h' : Bag R e F H (B ++ [(s, u)] ++ ss.zip us) := by rw [List.append_assoc]; exact h
    obtain ⟨F', sf, q⟩ := Bag.prep (vs := vs) (m := m) (by simpa using l) h'
    refine ⟨F', sf, ?_⟩
    unfold prepP
    rw [List.zip_cons_cons]
    rw [List.append_assoc] at q
    exact q
  | true :: m, s :: ss, F, B, u :: us, l, h => by
    rw [List.zip_cons_cons] at h
    have h' : Bag R e F H (B ++ [(s, u)] ++ ss.zip us) := by rw [List.append_assoc]; exact h
    obtain ⟨F', sf, q⟩ := Bag.prep (vs := vs) (m := m) (by simpa using l) h'
    have g : (B ++ [(s, u)] ++ (prepP m ss).zip us)[B.length]? = some (s, u) := by rw [List.append_assoc]; exact app_mid
    have eS : ∀ t : Sl, (B ++ [(s, u)] ++ (prepP m ss).zip us).set B.length (t, u) = B ++ (t, u) :: (prepP m ss).zip us := fun t => by
      rw [List.append_assoc, List.set_append_right _ _ (Nat.le_refl _), Nat.sub_self]; rfl
    unfold prepP
    rw [List.zip_cons_cons]
    cases s with
    | fz p => exact ⟨F', sf, by rw [List.append_assoc] at q; exact q⟩
    | own xs =>
      obtain ⟨F2, s2, q2⟩ := q.freeze g
      rw [eS] at q2
      exact ⟨F2, sf.trans s2, q2⟩
    | _ =>
      have q2 := q.put g (t := .un) trivial (fun _ z => nomatch z)
      rw [eS] at q2
      exact ⟨F', sf, q2⟩
end
theorem prepP_masked : ∀ {m : List Bool} {as : List Sl} {i : Nat} {s : Sl}, m[i]? = some true → (prepP m as)[i]? = some s → s = .un ∨ ∃ p, s = .fz p
  | [], _, _, _, h, _ => by simp at h
  | b :: m, [], _, _, _, h => by cases b <;> (unfold prepP at h; simp at h)
  | b :: m, t :: as, 0, s, h1, h2 => by
    simp at h1; subst h1
    unfold prepP at h2
    simp at h2
    subst h2
    cases valOf t with
    | none => exact .inl rfl
    | some p => exact .inr ⟨p, rfl⟩
  | b :: m, t :: as, i + 1, s, h1, h2 => by
    have h2' : (prepP m as)[i]? = some s := by cases b <;> (unfold prepP at h2; simpa using h2)
    exact prepP_masked (m := m) (by simpa using h1) h2'
def tmpsP (ps : List Sl) : List Sl := ps.map fun s => match s with
  | .fz p => .fz p
  | _ => .un
section
variable {P : Program} {w : World} {K : PySem.W.Frag} {mg : Str → Option Value} {base : Heap} {R : RE}
/-- THE RULE for a def: its body told by a function -/
theorem fn_pl {x qual : Str} {st : Stmt} {f : Addr} {fd : FuncData} {N ps : List Str} {k : Nat} {rs : List Bool} {body : PSF} {pr : List Nat} (F : Fun K x qual st f fd) (S : FnScope N ps (defScope st)) (hn : rs.length = ps.length) (hN : ps.length ≤ N.length)
    (hp : ∀ i : Nat, rs[i]? = some false → i ∈ pr)
    (hb : ∀ (cdv : Value) (A : Around) (outer : List Env) (s : Shared) (H : Hp) (E : XK), Room k (A.deeper (envOfC qual (defScope st) s.heap.objs.size f cdv)) → SSv (cxOf CX0 P w K mg base N qual (defScope st) f cdv A outer s H E).nox R pr (defBody st) body)
    (lb : ∀ ρ r ρ', body ρ = some (r, ρ') → ρ'.length = ρ.length) : FnP P w K mg base R (k + 1) f fd ps (fnF N.length rs body) := by
  have key : ∀ {as : List Sl} {r : Vl} {as' : List Sl}, fnF N.length rs body as = some (r, as') → ∃ fl ρ', body (prepP rs as ++ List.replicate (N.length - rs.length) .un) = some (fl, ρ') ∧ as' = finP rs (prepP rs as) ρ' ∧ ((fl = .rt r) ∨ (fl = .nx ∧ r = .fz .non)) := by
    intro as r as' q
    unfold fnF at q
    rw [Option.bind_eq_some_iff] at q
    obtain ⟨⟨fl, ρ'⟩, h1, q⟩ := q
    cases fl with
    | rt v => cases q; exact ⟨_, _, h1, rfl, .inl rfl⟩
    | nx => cases q; exact ⟨_, _, h1, rfl, .inr ⟨rfl, rfl⟩⟩
    | bk => cases q
    | ct => cases q
  have flen : ∀ (as : List Sl) (r : Vl) (as' : List Sl), as.length = ps.length → fnF N.length rs body as = some (r, as') → as'.length = as.length := fun as r as' la q => by
    obtain ⟨fl, ρ', h1, rfl, _⟩ := key q
    have l1 := lb _ _ _ h1
    rw [List.length_append, prepP_len, List.length_replicate] at l1
    rw [finP_len _ _ _ (by rw [prepP_len]; omega) (by rw [prepP_len]; omega), prepP_len]
  have q : FnOk P w K mg base CX0 (k + 1) f fd ps (spF R ps.length (fnF N.length rs body)) := F.ok S (fun vs H Q E h => h.1) fun cdv A outer s H vs Q E hr h => by
    obtain ⟨lv, F0, as, r, as', la, ⟨e0, hb0⟩, hf, kk⟩ := h
    obtain ⟨fl, ρ', h1, rfl, hfl⟩ := key hf
    refine ⟨_, (hb cdv A outer s H E hr).ps, ?_⟩
    have B0 := hb0.enter
    obtain ⟨F1, _, B1⟩ := Bag.prep (vs := []) (m := rs) (as := as) (B := []) (us := vs.map some) (by rw [List.length_map]; omega) (by rw [List.nil_append]; exact B0)
    rw [List.nil_append] at B1
    have lP : (prepP rs as).length = ps.length := by rw [prepP_len]; exact la
    have B2 := B1.more (C := (tmpsP (prepP rs as)).zip (vs.map some)) fun p hp => by
      obtain ⟨i, hi⟩ := List.getElem?_of_mem hp
      obtain ⟨s, o⟩ := p
      obtain ⟨gs, go⟩ := List.getElem?_zip_eq_some.mp hi
      unfold tmpsP at gs
      rw [List.getElem?_map, Option.map_eq_some_iff] at gs
      obtain ⟨t, ht, rfl⟩ := gs
      cases t with
      | fz p =>
        refine ⟨rfl, ?_⟩
        exact B1.mem (p := (.fz p, o)) (List.mem_of_getElem? (i := i) (List.getElem?_zip_eq_some.mpr ⟨ht, go⟩))
      | _ => exact ⟨rfl, trivial⟩
    have B3 := B2.more (C := (List.replicate (N.length - rs.length) Sl.un).zip (List.replicate (N.length - vs.length) none)) fun p hp => by
      obtain ⟨s, o⟩ := p
      obtain ⟨h1, h2⟩ := List.of_mem_zip hp
      obtain rfl := List.eq_of_mem_replicate h1
      exact ⟨rfl, trivial⟩
    have B4 : Bag R ⟨H, F0, lentOf (as.zip (vs.map some))⟩ F1 H ((prepP rs as ++ List.replicate (N.length - rs.length) Sl.un).zip (L2.start N vs) ++ (tmpsP (prepP rs as)).zip (vs.map some)) := by
      unfold L2.start
      rw [List.zip_append (by rw [List.length_map]; omega)]
      refine B3.perm ?_
      rw [List.append_assoc, List.append_assoc]
      exact (List.Perm.refl _).append List.perm_append_comm
    refine ⟨_, F1, _, _, fl, ρ', by unfold L2.start; simp only [List.length_append, List.length_replicate, List.length_map]; omega, B4, h1, ?_⟩
    have l1 := lb _ _ _ h1
    rw [List.length_append, lP, List.length_replicate] at l1
    have fin : ∀ (σ' : L2.St) (H' F' : Hp) (x : V) (v : Vl), σ'.length = (L2.start N vs).length → (∀ i ∈ pr, σ'[i]? = (L2.start N vs)[i]?) →
        Bag R ⟨H, F0, lentOf (as.zip (vs.map some))⟩ F' H' (ρ'.zip σ' ++ (tmpsP (prepP rs as)).zip (vs.map some) ++ [(v.sl, some x)]) →
        Bag R ⟨H, F0, lentOf (as.zip (vs.map some))⟩ F' H' ((finP rs (prepP rs as) ρ').zip (vs.map some) ++ [(v.sl, some x)]) := by
      intro σ' H' F' x v ls hp' B
      have lfin : (finP rs (prepP rs as) ρ').length = ps.length := by rw [finP_len _ _ _ (by omega) (by omega), lP]
      have lst : (L2.start N vs).length = N.length := by unfold L2.start; simp only [List.length_append, List.length_replicate, List.length_map]; omega
      have B5 : Bag R ⟨H, F0, lentOf (as.zip (vs.map some))⟩ F' H' ((ρ'.zip σ').take ps.length ++ [(v.sl, some x)]) := B.sublist (by
        rw [List.append_assoc]
        exact (List.take_sublist _ _).append (List.sublist_append_right _ _))
      have lt : ((ρ'.zip σ').take ps.length).length = ps.length := by rw [List.length_take, List.length_zip]; omega
      have lz : ((finP rs (prepP rs as) ρ').zip (vs.map some)).length = ps.length := by rw [List.length_zip, List.length_map]; omega
      refine B5.repl fun i p g => ?_
      by_cases hi : i < ps.length
      · rw [List.getElem?_append_left (by omega)] at g
        obtain ⟨s, o⟩ := p
        obtain ⟨gs, go⟩ := List.getElem?_zip_eq_some.mp g
        rw [List.getElem?_map, List.getElem?_eq_getElem (by omega : i < vs.length)] at go
        obtain rfl : some (vs[i]'(by omega)) = o := by simpa using go
        rcases finP_get (by omega) (by omega) gs with ⟨hm, hs⟩ | ⟨hm, hs⟩
        · refine .inr ?_
          rcases prepP_masked hm hs with rfl | ⟨p, rfl⟩
          · exact ⟨rfl, trivial⟩
          · refine ⟨rfl, ?_⟩
            have := B.mem (p := (.fz p, some (vs[i]'(by omega)))) (List.mem_append_left _ (List.mem_append_right _ (List.mem_of_getElem? (i := i) (List.getElem?_zip_eq_some.mpr ⟨?_, ?_⟩))))
            · exact this
            · unfold tmpsP
              rw [List.getElem?_map, hs]; rfl
            · rw [List.getElem?_map, List.getElem?_eq_getElem (by omega : i < vs.length)]; rfl
        · refine .inl ?_
          rw [List.getElem?_append_left (by omega), List.getElem?_take_of_lt hi]
          refine List.getElem?_zip_eq_some.mpr ⟨hs, ?_⟩
          rw [hp' i (hp i hm)]
          unfold L2.start
          rw [List.getElem?_append_left (by rw [List.length_map]; omega), List.getElem?_map, List.getElem?_eq_getElem (by omega : i < vs.length)]; rfl
      · refine .inl ?_
        rw [List.getElem?_append_right (by omega), lz] at g
        rw [List.getElem?_append_right (by omega), lt]
        exact g
    intro σ' H' F' ls hp'
    rcases hfl with rfl | ⟨rfl, rfl⟩
    · intro x B
      exact kk x H' F' (fin σ' H' F' x r ls hp' B)
    · intro B
      exact kk .non H' F' (fin σ' H' F' .non (.fz .non) ls hp' (B.push (s := .fz .non) ⟨_, rfl, .non⟩ rfl))
  exact ⟨flen, q⟩
end
end PL
set_option Elab.async false
set_option linter.all false
set_option maxRecDepth 100000
set_option maxHeartbeats 4000000
/-! PLm: attributes written, methods, globals. -/
namespace PL
open PySem PySem.Spec PyProof.Rows L2

def tgFld (K : PySem.W.Frag) (ta : TE) (f : Str) : TG := fun v σ H Q => ta σ H fun x H1 => ∃ (a C dx : Addr) (fs : List (Str × V)), x = .ref a ∧ H1 a = some (.ins C dx fs) ∧ Cls K C ∧ NoAttr K C f ∧ fs.length < 1000 ∧ Q σ (upd H1 a (.ins C dx (putF f v fs)))
theorem pg_fld {X : Cx} {o : Expr} {f : Str} {p : Pos} {ta : TE} (h : PE X o ta) : PG X (.Attribute o f p) (tgFld X.K ta f) := by
  refine ⟨fun pins s σ H v u Q I r q => ?_⟩
  rw [assign]
  refine wpAny_bind (wpAny_holding (wpAny_mono (h.run pins s σ H _ I q) (fun ov s1 z => ?_) fun e s1 z => z))
  obtain ⟨w, H1, I1, rw, a, C, dx, fs, rfl, g, cl, na, l, k⟩ := z
  cases rw
  refine wpAny_bind (wpAny_standAt ?_)
  refine wpAny_bind (wpAny_holding ?_)
  refine setattr_ok I1 g cl na l r fun s2 I2 => ?_
  exact wpAny_release ⟨_, _, I2, k⟩
theorem putF_new {f : Str} {v : V} : ∀ {fs : List (Str × V)}, (∀ q ∈ fs, q.1 ≠ f) → putF f v fs = fs ++ [(f, v)]
  | [], _ => by simp [putF]
  | q :: fs, h => by
    have h1 : q.1 ≠ f := h q List.mem_cons_self
    obtain ⟨a, b⟩ := q
    have h2 : putF f v fs = fs ++ [(f, v)] := putF_new fun q hq => h q (List.mem_cons_of_mem _ hq)
    show putF f v ((a, b) :: fs) = _
    unfold putF
    rw [if_neg h1, h2]; rfl
/-- targets that may write the heap -/
def TGw (R : RE) (ws : List Nat) (g : PGF) : TG := fun v σ H Q => ∃ (e : En) (F : Hp) (ρ : List Sl) (tm : Bg) (p : PV) (ρ' : List Sl), ρ.length = σ.length ∧ Bag R e F H (ρ.zip σ ++ tm) ∧ Rp R F p v ∧ g p ρ = some ρ' ∧
  ∀ σ' H', σ'.length = σ.length → (∀ j, j ∉ ws → σ'[j]? = σ[j]?) → Bag R e F H' (ρ'.zip σ' ++ tm) → Q σ' H'
def TGsw (R : RE) (ws : List Nat) (g : PGFs) : TGs := fun vs σ H Q => ∃ (e : En) (F : Hp) (ρ : List Sl) (tm : Bg) (ps : List PV) (ρ' : List Sl), ρ.length = σ.length ∧ Bag R e F H (ρ.zip σ ++ tm) ∧ RpL R F ps vs ∧ g ps ρ = some ρ' ∧
  ∀ σ' H', σ'.length = σ.length → (∀ j, j ∉ ws → σ'[j]? = σ[j]?) → Bag R e F H' (ρ'.zip σ' ++ tm) → Q σ' H'
structure Gw (X : Cx) (R : RE) (t : Expr) (ws : List Nat) (g : PGF) : Prop where
  len : ∀ p ρ ρ', g p ρ = some ρ' → ρ'.length = ρ.length
  pg : PG X t (TGw R ws g)
structure Gsw (X : Cx) (R : RE) (t : List Expr) (ws : List Nat) (g : PGFs) : Prop where
  len : ∀ p ρ ρ', g p ρ = some ρ' → ρ'.length = ρ.length
  pgs : PGs X t (TGsw R ws g)
/-- self.f at place i, its n-th field -/
def gFld (i c n : Nat) : PGF := fun p ρ => match ρ[i]? with
  | some (.obj c' zs) => if c' = c ∧ zs.length = n then some (ρ.set i (.obj c (zs ++ [p]))) else none
  | _ => none
section
variable {X : Cx} {R : RE} {pos : Pos}
theorem Gv.w {t : Expr} {ws : List Nat} {g : PGF} (h : Gv X R t ws g) : Gw X R t ws g := ⟨h.len, pg_mono h.pg fun v σ H Q ⟨e, F, ρ, tm, p, ρ', hl, hB, hr, hg, k⟩ => ⟨e, F, ρ, tm, p, ρ', hl, hB, hr, hg, fun σ' l' k' B' => k σ' H l' k' B'⟩⟩
theorem gw_fld {i c n : Nat} {x f : Str} {px : Pos} (hK : R.K = X.K) (hN : X.N[i]? = some x) (hv : Vis X.env.scope x) (hf : (R.fl c)[n]? = some f) (nd : (R.fl c).Nodup) (cl : Cls R.K (R.cl c)) (na : NoAttr R.K (R.cl c) f) (hn : n < 1000) (hd : (x == ("__debug__" : Str)) = false := by decide) (hcd : (x == ("__classdict__" : Str)) = false := by decide) :
    Gw X R (.Attribute (.Name x px) f pos) [] (gFld i c n) := by
  have key : ∀ {p : PV} {ρ ρ' : List Sl}, gFld i c n p ρ = some ρ' → ∃ zs, ρ[i]? = some (.obj c zs) ∧ zs.length = n ∧ ρ' = ρ.set i (.obj c (zs ++ [p])) := by
    intro p ρ ρ' h
    unfold gFld at h
    split at h
    · rename_i c' zs g
      split at h
      · rename_i cc
        cases h
        obtain ⟨rfl, l⟩ := cc
        exact ⟨zs, g, l, rfl⟩
      · cases h
    · cases h
  refine ⟨fun p ρ ρ' h => ?_, pg_mono (pg_fld (pe_var hN hv hd hcd)) fun v σ H Q h => ?_⟩
  · obtain ⟨zs, _, _, rfl⟩ := key h
    rw [List.length_set]
  · obtain ⟨e, F, ρ, tm, p, ρ', hl, hB, hr, hg, k⟩ := h
    obtain ⟨zs, g, lz, rfl⟩ := key hg
    obtain ⟨o, h2, h3, h4⟩ := slot_some hB hl g
    obtain ⟨a, dx, vs, rfl, h5, h6, l6, h7⟩ := h4
    have lv := h7.length
    have ln : n < (R.fl c).length := (List.getElem?_eq_some_iff.mp hf).1
    rw [hK] at cl na
    refine ⟨_, h2, a, R.cl c, dx, _, rfl, h6, cl, na, by rw [List.length_zip, List.length_take]; omega, ?_⟩
    have e1 : putF f v (((R.fl c).take zs.length).zip vs) = ((R.fl c).take (zs ++ [p]).length).zip (vs ++ [v]) := by
      rw [putF_new, List.length_append, List.length_singleton, lz, List.take_add_one, hf, Option.toList_some, List.zip_append (by rw [List.length_take]; omega)]
      · rfl
      · rintro ⟨q1, q2⟩ hq rfl
        have hq1 := (List.of_mem_zip hq).1
        rw [lz] at hq1
        obtain ⟨j, hj⟩ := List.getElem?_of_mem hq1
        have hjn : j < n := by
          have := (List.getElem?_eq_some_iff.mp hj).1
          rw [List.length_take] at this; omega
        rw [List.getElem?_take_of_lt hjn] at hj
        have e2 := (List.getElem?_inj (by omega) nd).mp (hj.trans hf.symm)
        omega
    rw [e1]
    have hB2 := hB.write (i := i) (s := .obj c zs) (t := .obj c (zs ++ [p])) (o := .ins (R.cl c) dx (((R.fl c).take (zs ++ [p]).length).zip (vs ++ [v]))) (app_get' (zip_get g h2)) rfl rfl ⟨a, dx, vs ++ [v], rfl, h5, upd_same, by rw [List.length_append, List.length_singleton]; omega, h7.append (.cons hr .nil)⟩
    refine k σ _ rfl (fun _ _ => rfl) ?_
    rw [zip_set h2, ← app_set (zip_lt (List.getElem?_eq_some_iff.mp g).1 hl)]
    exact hB2
theorem gsw_nil : Gsw X R [] [] gsNil := ⟨gsv_nil (X := X) (R := R) |>.len, pgs_mono (gsv_nil (X := X) (R := R)).pgs fun v σ H Q ⟨e, F, ρ, tm, p, ρ', hl, hB, hr, hg, k⟩ => ⟨e, F, ρ, tm, p, ρ', hl, hB, hr, hg, fun σ' l' k' B' => k σ' H l' k' B'⟩⟩
theorem gsw_cons {t : Expr} {ts : List Expr} {ws vs : List Nat} {g : PGF} {gs : PGFs} (h1 : Gw X R t ws g) (h2 : Gsw X R ts vs gs) (hs : (assignEach (t :: ts) X.env).map (·.2) = assign t X.env :: (assignEach ts X.env).map (·.2) := by rfl) : Gsw X R (t :: ts) (ws ++ vs) (gsCons g gs) := by
  have key : ∀ {ps : List PV} {ρ ρ' : List Sl}, gsCons g gs ps ρ = some ρ' → ∃ p r ρ1, ps = p :: r ∧ g p ρ = some ρ1 ∧ gs r ρ1 = some ρ' := by
    intro ps ρ ρ' h
    unfold gsCons at h
    split at h
    · rename_i p r
      rw [Option.bind_eq_some_iff] at h
      obtain ⟨ρ1, q1, q2⟩ := h
      exact ⟨p, r, ρ1, rfl, q1, q2⟩
    · cases h
  refine ⟨fun p ρ ρ' h => ?_, pgs_mono (pgs_cons h1.pg h2.pgs hs) fun v σ H Q h => ?_⟩
  · obtain ⟨p, r, ρ1, _, q1, q2⟩ := key h
    exact (h2.len _ _ _ q2).trans (h1.len _ _ _ q1)
  · obtain ⟨e, F, ρ, tm, ps, ρ', hl, hB, hr, hg, k⟩ := h
    obtain ⟨p, r, ρ1, rfl, q1, q2⟩ := key hg
    cases hr with
    | @cons _ _ v1 vr r1 r2 =>
      refine ⟨v1, vr, rfl, e, F, ρ, tm, p, ρ1, hl, hB, r1, q1, fun σ1 H1 l1 k1 B1 => ?_⟩
      refine ⟨e, F, ρ1, tm, r, ρ', by have := h1.len _ _ _ q1; omega, B1, r2, q2, fun σ2 H2 l2 k2 B2 => k σ2 H2 (l2.trans l1) (fun j hj => ?_) B2⟩
      rw [List.mem_append, not_or] at hj
      rw [k2 j hj.2, k1 j hj.1]
theorem gw_tup {es : List Expr} {ws : List Nat} {gs : PGFs} {k n : Nat} (hK : R.K = X.K) (hc : X.calm = true) (h : Gsw X R es ws gs) (ln : ∀ ps ρ ρ', gs ps ρ = some ρ' → ps.length = n) (hn : (assignEach es X.env).length = n := by rfl) (hst : (assignEach es X.env).findIdx? (·.1) = none := by rfl) :
    Gw X R (.Tuple es k pos) ws (gTp gs) := by
  refine ⟨fun p ρ ρ' q => ?_, pg_mono (pg_tup hc h.pgs hn hst) fun v σ H Q q => ?_⟩
  · unfold gTp at q
    split at q
    · exact h.len _ _ _ q
    · cases q
  · obtain ⟨e, F, ρ, tm, p, ρ', hl, hB, hr, hg, k⟩ := q
    unfold gTp at hg
    split at hg
    · rename_i ps
      cases hr with
      | tup q r =>
        have l := ln _ _ _ hg
        rw [hK] at q
        exact ⟨_, _, rfl, (hB.sub.sqT q.sq), by rw [← r.length]; exact l, e, F, ρ, tm, ps, ρ', hl, hB, r, hg, k⟩
    · cases hg
end
section
variable {X : Cx} {R : RE} {pr : List Nat} {a t : Expr} {fa : PF} {g : PGF} {ws : List Nat} {pos : Pos}
theorem sv_asgW (h : Ev X R a fa) (hg : Gw X R t ws g) (hp : ∀ i ∈ pr, i ∉ ws) (hs : swapsWithSole [t] a pos.line X.env = pure false := by rfl) (hw : swappedStores [t] a X.env = pure none := by rfl)
    (h1 : (assignEach [t] X.env).map (·.2) = [assign t X.env] := by rfl) : Sv X R pr (.Assign [t] a pos) (sAsg fa g) := by
  refine ⟨fun ρ r ρ' q => ?_, ps_mono (ps_asg h.pe hg.pg hs hw h1) fun D σ H q => ?_⟩
  · obtain ⟨r, ρ1, p, q1, q2, q3, _⟩ := sAsg_some q
    exact (hg.len _ _ _ q3).trans (h.len _ _ _ q1)
  · obtain ⟨e, F, ρ, tm, fl, ρ', hl, hB, hf, k⟩ := q
    obtain ⟨r, ρ1, p, q1, q2, q3, rfl⟩ := sAsg_some hf
    have l1 := h.len _ _ _ q1
    refine ⟨e, F, ρ, tm, r, ρ1, hl, hB, q1, fun x H1 F1 B1 _ => ?_⟩
    obtain ⟨F2, s2, B2, rp⟩ := B1.val q2
    exact ⟨e, F2, ρ1, tm, p, ρ', by omega, B2, rp, q3, fun σ' H' l' k' B' => k σ' H' F2 l' (fun i hi => k' i (hp i hi)) B'⟩
/-- a global whose value is the same in every heap -/
theorem ev_glob {x : Str} {v : V} {u : Value} {p : PV} (hg : Gl X x) (hm : X.mg x = some u) (rv : L2.RelV v u) (r : ∀ F, Rp R F p v) (hd : (x == ("__debug__" : Str)) = false := by decide) : Ev X R (.Name x pos) (eC p) := ev_c (pe_glob hg hm rv hd) r
end

/-! ### methods -/
/-- o.m(..) of an instance of class c -/
def eMeth (c : Nat) (f : FP) (fa : PF) (fs : PFs) : PF := fun ρ => (fa ρ).bind fun x => match x.1 with
  | .fz (.ins c' zs) => if c' = c then (fs x.2).bind fun y => (f (.fz (.ins c zs) :: y.1.map tmpOf)).bind fun z => match z.2 with
    | _ :: ss => some (z.1.sl, putB y.1 ss y.2)
    | [] => none
    else none
  | _ => none
section
variable {X : Cx} {R : RE} {o a : Expr} {es : List Expr} {fa : PF} {fs : PFs} {pos apos : Pos} {k : Nat} {f : Addr} {fd : FuncData} {ps : List Str} {fn : FP} {m : Str} {c : Nat}
theorem eMeth_some {ρ ρ' : List Sl} {r : Sl} (q : eMeth c fn fa fs ρ = some (r, ρ')) : ∃ zs ρ1 rs ρ2 v s0 ss, fa ρ = some (.fz (.ins c zs), ρ1) ∧ fs ρ1 = some (rs, ρ2) ∧ fn (.fz (.ins c zs) :: rs.map tmpOf) = some (v, s0 :: ss) ∧ r = v.sl ∧ ρ' = putB rs ss ρ2 := by
  unfold eMeth at q
  rw [Option.bind_eq_some_iff] at q
  obtain ⟨⟨r1, ρ1⟩, h1, q⟩ := q
  split at q
  · rename_i c' zs e1
    dsimp only at e1 q
    subst e1
    split at q
    · rename_i ec
      subst ec
      rw [Option.bind_eq_some_iff] at q
      obtain ⟨⟨rs, ρ2⟩, h2, q⟩ := q
      rw [Option.bind_eq_some_iff] at q
      obtain ⟨⟨v, ss⟩, h3, q⟩ := q
      split at q
      · rename_i s0 ss' e2
        dsimp only at e2
        subst e2
        cases q
        exact ⟨zs, ρ1, rs, ρ2, v, s0, ss', h1, h2, h3, rfl, rfl⟩
      · cases q
    · cases q
  · cases q
theorem Rp.ins_of {R : RE} {F : Hp} {c : Nat} {xs : List PV} {y : V} (h : Rp R F (.ins c xs) y) : ∃ (ad dx : Addr) (vs : List V), y = .ref ad ∧ F ad = some (.ins (R.cl c) dx ((R.fl c).zip vs)) ∧ vs.length = (R.fl c).length ∧ RpL R F xs vs := by
  cases h with
  | ins q l r => exact ⟨_, _, _, rfl, q, l, r⟩
theorem lookup_mem {m : Str} {w : V} : ∀ {fs : List Str} {vs : List V}, List.lookup m (fs.zip vs) = some w → m ∈ fs
  | [], _, h => by cases h
  | _ :: _, [], h => by cases h
  | a :: fs, b :: vs, h => by
    rw [List.zip_cons_cons, List.lookup_cons] at h
    split at h
    · rename_i e
      rw [eq_of_beq e]; exact List.mem_cons_self
    · exact List.mem_cons_of_mem _ (lookup_mem h)
/-- what both ways of calling need -/
theorem meth_core {e : En} {F1 H1 : Hp} {ρ1 : List Sl} {σ : L2.St} {tm : Bg} {rs ss : List Sl} {xs : List V} {v : Vl} {n : Nat} {Q : VK} {E : XK} {zs : List PV} {s0 : Sl} {y : V} (lf : ∀ as r as', as.length = n → fn as = some (r, as') → as'.length = as.length) (hn : rs.length + 1 = n) (hl : ρ1.length = σ.length)
    (B1 : Bag R e F1 H1 (ρ1.zip σ ++ tm ++ (rs.map tmpOf).zip (xs.map some))) (ry : Rp R F1 (.ins c zs) y) (k1 : Paired (fun r x => PkOk r σ x) rs xs) (h2 : fn (.fz (.ins c zs) :: rs.map tmpOf) = some (v, s0 :: ss))
    (kk : ∀ z H' F', Bag R e F' H' ((putB rs ss ρ1).zip σ ++ tm ++ [(v.sl, some z)]) → Q z H') : spF R n fn (y :: xs) H1 Q E := by
  have lx := Paired.len k1
  have e1 : (Sl.fz (.ins c zs) :: rs.map tmpOf).zip ((y :: xs).map some) = (.fz (.ins c zs), some y) :: (rs.map tmpOf).zip (xs.map some) := rfl
  have B2 : Bag R e F1 H1 (ρ1.zip σ ++ tm ++ ((Sl.fz (.ins c zs) :: rs.map tmpOf).zip ((y :: xs).map some))) := by
    rw [e1]
    refine (B1.push_fz ry).perm ?_
    rw [List.append_assoc (ρ1.zip σ ++ tm)]
    exact (List.Perm.refl _).append (List.perm_append_singleton _ _)
  refine ⟨by rw [List.length_cons]; omega, F1, .fz (.ins c zs) :: rs.map tmpOf, v, s0 :: ss, by simpa using hn, ⟨_, B2.sublist (List.sublist_append_right _ _)⟩, h2, fun z H' F' B' => kk z H' F' ?_⟩
  have ls := lf _ _ _ (by simpa using hn) h2
  simp only [List.length_cons, List.length_map] at ls
  have B3 := B2.leave B'
  have e2 : (s0 :: ss).zip ((y :: xs).map some) = (s0, some y) :: ss.zip (xs.map some) := rfl
  rw [e2, List.cons_append] at B3
  exact Bag.home (C := [(v.sl, some z)]) (by omega) hl k1 B3.drop_mid
theorem ev_meth (hK : R.K = X.K) (ho : Ev X R o fa) (cl : Cls X.K (R.cl c)) (hm : Meth X.K (R.cl c) m f) (nf : m ∉ R.fl c) (hf : FnP X.prog X.w X.K X.mg X.base R k f fd ps fn) (hr : Room k X.A) (hb : Binds X.K fd ps []) (ha : Av X R (a :: es) fs) (hn : (a :: es).length + 1 = ps.length := by rfl)
    (he : starEach (a :: es) X.env = (false, eval a X.env) :: starEach es X.env := by rfl) (hpl : (backTo pos (starEach es X.env)).any (·.1) = false := by rfl)
    {pl : Sem Bool} (hev : eval (.Call (.Attribute o m apos) (a :: es) [] pos) X.env = (do
                              let ov ← eval o X.env
                              standAt apos.atName
                              let __x ← holding [ov] (getMethod ov m pl)
                              match __x with
                                | (f, first) =>
                                  callWith pos f first (backTo pos (starEach (a :: es) X.env))
                                    (backToKw pos (keywordEach [] X.env))) := by rfl) :
    Ev X R (.Call (.Attribute o m apos) (a :: es) [] pos) (eMeth c fn fa fs) := by
  refine ⟨fun ρ r ρ' q => ?_, pe_mono (pe_meth ho.pe cl hm hf.ok hr hb .nil pass0 ha.pa he hpl hev) fun σ H Q h => ?_⟩
  · obtain ⟨zs, ρ1, rs, ρ2, v, s0, ss, h1, h2, h3, _, rfl⟩ := eMeth_some q
    rw [putB_len]; exact (ha.len _ _ _ h2).trans (ho.len _ _ _ h1)
  · obtain ⟨e, F, ρ, tm, r, ρ', hl, hB, hf', kk⟩ := h
    obtain ⟨zs, ρ1, rs, ρ2, v, s0, ss, h1, h2, h3, rfl, rfl⟩ := eMeth_some hf'
    refine ⟨e, F, ρ, tm, _, ρ1, hl, hB, h1, fun x H1 F1 B1 k1 => ?_⟩
    have l1 := ho.len _ _ _ h1
    obtain ⟨y, ey, q⟩ := B1.all _ _ _ app_last
    cases ey
    obtain ⟨ad, dx, vs, ey, q1, l, r⟩ := q.ins_of
    · subst ey
      refine ⟨ad, dx, _, rfl, B1.sub _ _ q1, ?_, e, F1, ρ1, tm ++ [(.fz (.ins c zs), some (.ref ad))], rs, ρ2, by omega, by rw [← List.append_assoc]; exact B1, h2, fun xs H2 F2 B2 k2 => ?_⟩
      · cases hh : List.lookup m ((R.fl c).zip vs) with
        | none => rfl
        | some w => exact absurd (lookup_mem hh) nf
      · show spF R ps.length fn (.ref ad :: (xs ++ [])) H2 Q E0
        rw [List.append_nil]
        have ry : Rp R F2 (.ins c zs) (.ref ad) := by
          obtain ⟨z, ez, rz⟩ := B2.mem (p := (.fz (.ins c zs), some (.ref ad))) (by simp)
          cases ez
          exact rz
        have B3 : Bag R e F2 H2 (ρ2.zip σ ++ tm ++ (rs.map tmpOf).zip (xs.map some)) := B2.sublist (by
          rw [← List.append_assoc (ρ2.zip σ)]
          exact (List.sublist_append_left _ _).append (List.Sublist.refl _))
        exact meth_core hf.len (by have := ha.cnt _ _ _ h2; omega) (by have := ha.len _ _ _ h2; omega) B3 ry k2 h3 fun z H' F' B' => kk z H' F' (by rw [tmp_sl]; exact B') (sl_pk v σ z)
end
end PL
set_option Elab.async false
set_option linter.all false
set_option maxRecDepth 100000
set_option maxHeartbeats 4000000
/-! PLn: the rules as the printed texts use them. -/
namespace PL
open PySem PySem.Spec PyProof.Rows L2
section
variable {X : Cx} {R : RE} {pos : Pos}
theorem vPk (i : Nat) {x : Str} (hN : X.N[i]? = some x := by rfl) (hv : Vis X.env.scope x := by first | exact .inl rfl | exact .inr (.inl rfl) | exact .inr (.inr rfl)) (hd : (x == ("__debug__" : Str)) = false := by decide) (hcd : (x == ("__classdict__" : Str)) = false := by decide) : Ev X R (.Name x pos) (ePk i) := ev_pk hN hv hd hcd
theorem vVar (i : Nat) {x : Str} (hN : X.N[i]? = some x := by rfl) (hv : Vis X.env.scope x := by first | exact .inl rfl | exact .inr (.inl rfl) | exact .inr (.inr rfl)) (hd : (x == ("__debug__" : Str)) = false := by decide) (hcd : (x == ("__classdict__" : Str)) = false := by decide) : Ev X R (.Name x pos) (eVar i) := ev_var hN hv hd hcd
theorem vMv (i : Nat) {x : Str} (hN : X.N[i]? = some x := by rfl) (hv : Vis X.env.scope x := by first | exact .inl rfl | exact .inr (.inl rfl) | exact .inr (.inr rfl)) (hd : (x == ("__debug__" : Str)) = false := by decide) (hcd : (x == ("__classdict__" : Str)) = false := by decide) : Ev X R (.Name x pos) (eMv i) := ev_mv hN hv hd hcd
theorem vBor (i : Nat) {x : Str} (hN : X.N[i]? = some x := by rfl) (hv : Vis X.env.scope x := by first | exact .inl rfl | exact .inr (.inl rfl) | exact .inr (.inr rfl)) (hd : (x == ("__debug__" : Str)) = false := by decide) (hcd : (x == ("__classdict__" : Str)) = false := by decide) : Ev X R (.Name x pos) (eBor i) := ev_bor hN hv hd hcd
/-- a built-in type by its name -/
theorem vTy (t : Ty) {x : Str} (hm : X.mg x = none) (hv : bootBuiltins x = some (.type t.nm)) (hg : Gl X x := by rfl) (hne : x ≠ ("__name__" : Str) := by decide) (hd : (x == ("__debug__" : Str)) = false := by decide) : Ev X R (.Name x pos) (eC (.ty t)) := ev_c (pe_bltn (v := .ty t.nm) hg hm hv rfl hne hd) fun F => .ty t
theorem ev_gc {x : Str} {v : V} {p : PV} (hg : Gl X x) (h : ∃ u, X.mg x = some u ∧ L2.RelV v u) (r : ∀ F, Rp R F p v) (hd : (x == ("__debug__" : Str)) = false := by decide) : Ev X R (.Name x pos) (eC p) := by
  obtain ⟨u, hm, rv⟩ := h
  exact ev_glob hg hm rv r hd
theorem hu64 {k : Nat} {A : Around} (h : Room k A) : A.units + 64 < cLine := by have := h.un; omega
theorem hu65 {k : Nat} {A : Around} (h : Room k A) : A.units + 65 < cLine := by have := h.un; omega
theorem prs_of {rs : List Bool} {pr : List Nat} (h : (List.range rs.length).all (fun i => rs[i]? != some false || pr.contains i) = true) : ∀ i : Nat, rs[i]? = some false → i ∈ pr := fun i q => by
  have hi : i < rs.length := (List.getElem?_eq_some_iff.mp q).1
  have := List.all_eq_true.mp h i (List.mem_range.mpr hi)
  rw [q] at this
  simpa using this
def sh0 : Shared := {}
theorem room_deep {k : Nat} (e : Env) (h : k ≤ 20) : Room k (callerA.deeper e) := by
  have h1 : callerA.depth + 1 + 65 < recursionLimit := by decide
  have h2 : callerA.units + 3 + 520 < cLine := by decide
  refine ⟨rfl, ?_, ?_⟩
  · show callerA.depth + 1 + 3 * k + 5 < recursionLimit
    omega
  · show callerA.units + 3 + 16 * k + 200 < cLine
    omega
theorem fn_pl' {P : Program} {w : World} {K : PySem.W.Frag} {mg : Str → Option Value} {base : Heap} {R : RE} {x qual : Str} {st : Stmt} {f : Addr} {fd : FuncData} {N ps : List Str} {k : Nat} {rs : List Bool} {body : PSF} {pr : List Nat} (F : Fun K x qual st f fd) (S : FnScope N ps (defScope st)) (hn : rs.length = ps.length) (hN : ps.length ≤ N.length)
    (hp : (List.range rs.length).all (fun i => rs[i]? != some false || pr.contains i) = true)
    (hb : ∀ (cdv : Value) (A : Around) (outer : List Env) (s : Shared) (H : Hp) (E : XK), Room k (A.deeper (envOfC qual (defScope st) s.heap.objs.size f cdv)) → SSv (cxOf CX0 P w K mg base N qual (defScope st) f cdv A outer s H E).nox R pr (defBody st) body)
    (hA : k ≤ 20 := by decide) : FnP P w K mg base R (k + 1) f fd ps (fnF N.length rs body) :=
  fn_pl F S hn hN (prs_of hp) hb (hb .none callerA [] sh0 (fun _ => none) (fun _ _ _ => False) (room_deep _ hA)).len
end
end PL
set_option Elab.async false
set_option linter.all false
set_option maxRecDepth 100000
set_option maxHeartbeats 4000000
/-! PLo: min, max, sum, all, any of tuples. -/
namespace PL
open PySem PySem.Spec PyProof.Rows L2

theorem CallOk.or {R : RE} {op op' : List PV → Option Vl} {rd rd' : List V → Hp → VK → Prop} (h : CallOk R op rd) (h' : CallOk R op' rd') : CallOk R (fun ps => match op ps with | some r => some r | none => op' ps) (fun xs H Q => rd xs H Q ∨ rd' xs H Q) := by
  intro e F H B ps xs r Q hB hp ho k
  dsimp only at ho
  cases e1 : op ps with
  | some r' =>
    rw [e1] at ho
    cases ho
    exact .inl (h e F H B ps xs r Q hB hp e1 k)
  | none =>
    rw [e1] at ho
    exact .inr (h' e F H B ps xs r Q hB hp ho k)
theorem vals_ints_get : ∀ {ns : List Int} {its : List Value} {i : Nat} {v : Value}, Vals (ns.map V.int) its → its[i]? = some v → ∃ t, v = .int (ns.getD i 0) t
  | [], _, i, v, .nil, g => by simp at g
  | n :: ns, _, 0, v, .cons r _, g => by
    simp at g
    subst g
    obtain ⟨t, rfl⟩ := r
    exact ⟨t, by simp⟩
  | n :: ns, _, i + 1, v, .cons _ rs, g => by
    obtain ⟨t, e⟩ := vals_ints_get rs (i := i) (by simpa using g)
    exact ⟨t, by simpa using e⟩
theorem vals_len : ∀ {xs : List V} {its : List Value}, Vals xs its → its.length = xs.length
  | _, _, .nil => rfl
  | _, _, .cons _ rs => by rw [List.length_cons, List.length_cons, vals_len rs]
section
variable {X : Cx}
/-- a walk over a tuple that ends in a value -/
theorem tup_walk {pins : List (Addr × Obj)} {σ : L2.St} {H : Hp} {s : Shared} {a : Addr} {ns : List Int} {A : Around} {E : Value → Shared → Prop} {Q : Value → Shared → Prop} (I : L2.Inv X pins σ H s) (hq : SqT X.K H a (ns.map V.int)) (hh : A.handled = none)
    (k : ∀ (its : List Value), Vals (ns.map V.int) its → Walks X.prog X.w A s.heap.objs.size [s.heap.objs.size, a] [s.heap.objs.size] ns.length (fun i v => its[i]? = some v) (fun i h => h.IsTupleIter s.heap.objs.size a i ∧ h.IsTuple a its.toArray) →
      (∀ (h : Heap), (fun i (h : Heap) => h.IsTupleIter s.heap.objs.size a i ∧ h.IsTuple a its.toArray) 0 h → True) →
      (∀ b ∈ [s.heap.objs.size, a], b < (s.heap.push { cls := Value.type "tuple_iterator", data := Data.fields #[Value.ref a, Value.int 0 0] }).objs.size) →
      (s.heap.push { cls := Value.type "tuple_iterator", data := Data.fields #[Value.ref a, Value.int 0 0] }).IsTupleIter s.heap.objs.size a 0 ∧ (s.heap.push { cls := Value.type "tuple_iterator", data := Data.fields #[Value.ref a, Value.int 0 0] }).IsTuple a its.toArray →
      (∀ (h' : Heap) (tk : Nat), (∀ (b : Addr) (o : Obj), b ∉ [s.heap.objs.size] → (s.heap.push { cls := Value.type "tuple_iterator", data := Data.fields #[Value.ref a, Value.int 0 0] }).get? b = some o → h'.get? b = some o) → L2.Inv X pins σ H { heap := h', gens := s.gens, drawn := s.drawn, toks := tk, os := s.os }) →
      Q (.ref s.heap.objs.size) { heap := s.heap.push { cls := Value.type "tuple_iterator", data := Data.fields #[Value.ref a, Value.int 0 0] }, gens := s.gens, drawn := s.drawn, toks := s.toks, os := s.os }) :
    wpAny (model X.prog X.w) A (pyIter (.ref a)) Q E s := by
  obtain ⟨its, rv, p, hz⟩ := I.tuple hq
  have p' : s.heap.IsTuple a its.toArray := p
  refine wpAny_pyIter_tuple p' ?_
  have hlt : a < s.heap.objs.size := by
    obtain ⟨m, hm, _⟩ := p'
    exact Heap.lt_size hm
  have hl := vals_len rv
  rw [List.length_map] at hl
  refine k its rv (by
    have w := Walks.tuple (prog := X.prog) (w := X.w) hh s.heap.objs.size a (Nat.ne_of_lt hlt) its.toArray
    have es : its.toArray.size = ns.length := by simp [hl]
    rw [es] at w
    simpa using w) (fun _ _ => trivial) (fun b hb => ?_) ⟨⟨_, Heap.get?_push_size _ rfl, rfl, rfl⟩, ?_⟩ fun h' tk hk => ?_
  · rw [Heap.size_push]
    simp at hb
    rcases hb with rfl | rfl
    · exact Nat.lt_succ_self _
    · exact Nat.lt_succ_of_lt hlt
  · obtain ⟨m, hm, c⟩ := p'
    exact ⟨m, Heap.get?_push_of_some _ hm, c⟩
  · refine I.kept fun b u hu => hk b u (fun z => ?_) (Heap.get?_push_of_some _ hu)
    simp at z
    subst z
    exact absurd (Heap.lt_size hu) (Nat.lt_irrefl _)
def rMinT (K : PySem.W.Frag) (vs : List V) (H : Hp) (Q : VK) : Prop := ∃ (a : Addr) (ns : List Int), vs = [V.ref a] ∧ SqT K H a (ns.map V.int) ∧ 0 < ns.length ∧ ∀ m, m ∈ ns → (∀ y, y ∈ ns → m ≤ y) → Q (.int m) H
def rMaxT (K : PySem.W.Frag) (vs : List V) (H : Hp) (Q : VK) : Prop := ∃ (a : Addr) (ns : List Int), vs = [V.ref a] ∧ SqT K H a (ns.map V.int) ∧ 0 < ns.length ∧ ∀ m, m ∈ ns → (∀ y, y ∈ ns → y ≤ m) → Q (.int m) H
theorem getD_all {ns : List Int} {P : Int → Prop} (h : ∀ j, j ≤ ns.length - 1 → P (ns.getD j 0)) : ∀ y ∈ ns, P y := fun y hy => by
  obtain ⟨j, hj, rfl⟩ := List.getElem_of_mem hy
  have := h j (by omega)
  rw [List.getD_eq_getElem?_getD, List.getElem?_eq_getElem hj] at this
  exact this
theorem getD_mem {ns : List Int} {j : Nat} (h : j < ns.length) : ns.getD j 0 ∈ ns := by
  rw [List.getD_eq_getElem?_getD, List.getElem?_eq_getElem h]
  exact List.getElem_mem h
theorem cr_minT (hc : X.calm = true) : CallR X (.builtin "min") (rMinT X.K) := by
  intro pins s σ H xs us Q I rv ⟨a, ns, e, hq, hn, k⟩
  subst e
  match us, rv with
  | [_], .cons r .nil =>
    cases r
    refine call_min_walk (tup_walk I hq (I.ok.hd hc) fun its ri w _ hfp hst hI => ?_)
    refine ⟨_, _, _, _, _, _, fun i j => decide (ns.getD i 0 < ns.getD j 0), rfl, w, hst, hfp, hn, CmpOf.ints_lt (fun i => ns.getD i 0) fun i v g => vals_ints_get ri g, fun v h' tk hv hk => ?_⟩
    obtain ⟨t, rfl⟩ := vals_ints_get ri hv
    obtain ⟨hle, hmin⟩ := argBest_lt (fun i => ns.getD i 0) (ns.length - 1)
    exact ⟨.int _, H, hI h' tk hk, ⟨t, rfl⟩, k _ (getD_mem (by omega)) (getD_all hmin)⟩
theorem cr_maxT (hc : X.calm = true) : CallR X (.builtin "max") (rMaxT X.K) := by
  intro pins s σ H xs us Q I rv ⟨a, ns, e, hq, hn, k⟩
  subst e
  match us, rv with
  | [_], .cons r .nil =>
    cases r
    refine call_max_walk (tup_walk I hq (I.ok.hd hc) fun its ri w _ hfp hst hI => ?_)
    refine ⟨_, _, _, _, _, _, fun i j => decide (ns.getD i 0 > ns.getD j 0), rfl, w, hst, hfp, hn, CmpOf.ints_gt (fun i => ns.getD i 0) fun i v g => vals_ints_get ri g, fun v h' tk hv hk => ?_⟩
    obtain ⟨t, rfl⟩ := vals_ints_get ri hv
    obtain ⟨hle, hmax⟩ := argBest_gt (fun i => ns.getD i 0) (ns.length - 1)
    exact ⟨.int _, H, hI h' tk hk, ⟨t, rfl⟩, k _ (getD_mem (by omega)) (getD_all (P := fun y => y ≤ ns.getD (argBest (fun i j => decide (ns.getD i 0 > ns.getD j 0)) (ns.length - 1)) 0) hmax)⟩
end
def clMin2 : List PV → Option Vl := fun ps => match clMin ps with
  | some r => some r
  | none => match ps with
    | [.tup xs] => (intsOf xs).bind fun ns => if ns.isEmpty then none else some (.fz (.int (minL ns)))
    | _ => none
def clMax2 : List PV → Option Vl := fun ps => match clMax ps with
  | some r => some r
  | none => match ps with
    | [.tup xs] => (intsOf xs).bind fun ns => if ns.isEmpty then none else some (.fz (.int (maxL ns)))
    | _ => none
theorem cok_min2 {R : RE} : CallOk R clMin2 (fun xs H Q => ((∃ i j, xs = [.int i, .int j] ∧ Q (.int (if j < i then j else i)) H) ∨ rMin R.K xs H Q) ∨ rMinT R.K xs H Q) := by
  refine cok_min.or (op' := fun ps => match ps with
    | [.tup xs] => (intsOf xs).bind fun ns => if ns.isEmpty then none else some (.fz (.int (minL ns)))
    | _ => none) ?_
  intro e F H B ps xs r Q hB hp ho k
  dsimp only at ho
  split at ho
  · rename_i zs
    rw [Option.bind_eq_some_iff] at ho
    obtain ⟨ns, h1, ho⟩ := ho
    split at ho
    · cases ho
    · rename_i c
      cases ho
      obtain ⟨x, rfl, q⟩ := hp.one
      obtain ⟨a, vs, rfl, h2, r1⟩ := q.tup hB.sub
      rw [intsOf_eq h1] at r1
      rw [r1.ints] at h2
      have hne : ns ≠ [] := fun z => by rw [z] at c; exact c rfl
      refine ⟨a, ns, rfl, h2, by cases ns with | nil => exact absurd rfl hne | cons _ _ => simp, fun m hm hle => ?_⟩
      have em : m = minL ns := by
        have h3 := minL_le hm
        have h4 := hle _ (minL_mem hne)
        omega
      rw [em]
      exact k _ H F (hB.push_fz (.int _))
  · cases ho
theorem cok_max2 {R : RE} : CallOk R clMax2 (fun xs H Q => ((∃ i j, xs = [.int i, .int j] ∧ Q (.int (if j > i then j else i)) H) ∨ rMax R.K xs H Q) ∨ rMaxT R.K xs H Q) := by
  refine cok_max.or (op' := fun ps => match ps with
    | [.tup xs] => (intsOf xs).bind fun ns => if ns.isEmpty then none else some (.fz (.int (maxL ns)))
    | _ => none) ?_
  intro e F H B ps xs r Q hB hp ho k
  dsimp only at ho
  split at ho
  · rename_i zs
    rw [Option.bind_eq_some_iff] at ho
    obtain ⟨ns, h1, ho⟩ := ho
    split at ho
    · cases ho
    · rename_i c
      cases ho
      obtain ⟨x, rfl, q⟩ := hp.one
      obtain ⟨a, vs, rfl, h2, r1⟩ := q.tup hB.sub
      rw [intsOf_eq h1] at r1
      rw [r1.ints] at h2
      have hne : ns ≠ [] := fun z => by rw [z] at c; exact c rfl
      refine ⟨a, ns, rfl, h2, by cases ns with | nil => exact absurd rfl hne | cons _ _ => simp, fun m hm hle => ?_⟩
      have em : m = maxL ns := by
        have h3 := maxL_ge hm
        have h4 := hle _ (maxL_mem hne)
        omega
      rw [em]
      exact k _ H F (hB.push_fz (.int _))
  · cases ho
end PL
set_option Elab.async false
set_option linter.all false
set_option maxRecDepth 100000
set_option maxHeartbeats 4000000
/-! PLp: what the laws' own draws give. -/
namespace PL
open PySem PySem.Spec PyProof.Rows L2
theorem datN_i (n : Nat) (i : Int) : datN n (.int i) = true := by cases n <;> rfl
theorem datN_n (n : Nat) : datN n .non = true := by cases n <;> rfl
theorem datN_b (n : Nat) (b : Bool) : datN n (.bl b) = true := by cases n <;> rfl
theorem datN_l (n : Nat) (xs : List PV) : datN (n + 1) (.lst xs) = datNs n xs := rfl
theorem datN_t (n : Nat) (xs : List PV) : datN (n + 1) (.tup xs) = datNs n xs := rfl
theorem datNs_nil (n : Nat) : datNs n [] = true := by cases n <;> rfl
theorem datNs_cons (n : Nat) (x : PV) (xs : List PV) : datNs n (x :: xs) = (datN n x && datNs n xs) := by rw [datNs]
theorem eqP_ii (i j : Int) : eqP (.int i) (.int j) = (i == j) := by rw [eqP]
theorem eqP_nn : eqP .non .non = true := by rw [eqP]
theorem eqP_bb (a b : Bool) : eqP (.bl a) (.bl b) = (a == b) := by rw [eqP]
theorem eqP_ll (a b : List PV) : eqP (.lst a) (.lst b) = eqPs a b := by rw [eqP]
theorem eqP_tt (a b : List PV) : eqP (.tup a) (.tup b) = eqPs a b := by rw [eqP]
theorem eqPs_nn : eqPs [] [] = true := by rw [eqPs]
theorem eqPs_cc (x y : PV) (xs ys : List PV) : eqPs (x :: xs) (y :: ys) = (eqP x y && eqPs xs ys) := by rw [eqPs]
theorem eqPs_nc (y : PV) (ys : List PV) : eqPs [] (y :: ys) = false := by rw [eqPs] <;> intros <;> simp_all
theorem eqPs_cn (y : PV) (ys : List PV) : eqPs (y :: ys) [] = false := by rw [eqPs] <;> intros <;> simp_all
theorem datNs_Ints' (n : Nat) : ∀ ns : List Int, datNs n (ns.map PV.int) = true
  | [] => datNs_nil n
  | i :: ns => by rw [List.map_cons, datNs_cons, datN_i, datNs_Ints' n ns]; rfl
theorem eqPs_Ints' : ∀ a b : List Int, eqPs (a.map PV.int) (b.map PV.int) = (a == b)
  | [], [] => by simp [eqPs_nn]
  | [], _ :: _ => by rw [List.map_nil, List.map_cons, eqPs_nc]; rfl
  | _ :: _, [] => by rw [List.map_nil, List.map_cons, eqPs_cn]; rfl
  | x :: a, y :: b => by rw [List.map_cons, List.map_cons, eqPs_cc, eqP_ii, eqPs_Ints' a b]; rfl
def F_draw0 : FP := fnF 5 [false, false] (sSeq (sIf (tAndF (tOf (eBin opEq (eBin opIx (ePk 0) (eC (.int 2))) (eC (.int 0)))) (tOf (eBin opLt (eBin opIx (ePk 0) (eC (.int 1))) (eNary clLen (aCons (eBin opIx (ePk 0) (eC (.int 0))) aNil))))) (sSeq (sSet 2 (eBin opIx (eBin opIx (ePk 0) (eC (.int 0))) (eBin opIx (ePk 0) (eC (.int 1))))) (sSeq (sSetIx 0 (eBin opAdd (eBin opIx (ePk 0) (eC (.int 1))) (eC (.int 1))) (eC (.int 1))) (sSeq (sSetIx 0 (eBin opMod (eNary clInt (aCons (eBin opAdd (eBin opAdd (eBin opMul (eBin opIx (ePk 0) (eC (.int 3))) (eC (.int 69621))) (ePk 2)) (eC (.int 29))) aNil)) (eC (.int 2147483629))) (eC (.int 3))) (sIf (tOf (eBin opGe (ePk 2) (eBin opPow (eC (.int 10)) (eC (.int 18))))) (sSetIx 0 (eVar 2) (eC (.int 2))) sNil)))) sNil) (sSeq (sIf (tOf (eBin opGt (eBin opIx (ePk 0) (eC (.int 2))) (eC (.int 0)))) (sSeq (sSet 3 (eBin opMod (eNary clInt (aCons (eBin opIx (ePk 0) (eC (.int 2))) aNil)) (ePk 1))) (sSeq (sSetIx 0 (eBin opFdiv (eBin opIx (ePk 0) (eC (.int 2))) (ePk 1)) (eC (.int 2))) (sRet (eVar 3)))) sNil) (sSeq (sSetIx 0 (eBin opAdd (eBin opIx (ePk 0) (eC (.int 4))) (eC (.int 1))) (eC (.int 4))) (sSeq (sSet 4 (eBin opMod (eNary clInt (aCons (eBin opMul (eNary clInt (aCons (eBin opAdd (eBin opIx (ePk 0) (eC (.int 3))) (eBin opMul (eC (.int 7919)) (eBin opIx (ePk 0) (eC (.int 4))))) aNil)) (eC (.int 48271))) aNil)) (eC (.int 2147483647)))) (sSeq (sSet 4 (eBin opMod (eNary clInt (aCons (eBin opMul (ePk 4) (eBin opAdd (eBin opFdiv (ePk 4) (eC (.int 1009))) (eC (.int 69621)))) aNil)) (eC (.int 2147483647)))) (sSeq (sSet 4 (eBin opMod (eNary clInt (aCons (eBin opMul (ePk 4) (eBin opAdd (eBin opFdiv (ePk 4) (eC (.int 2003))) (eC (.int 40692)))) aNil)) (eC (.int 2147483399)))) (sRet (eBin opMod (eNary clInt (aCons (eBin opFdiv (ePk 4) (eC (.int 16))) aNil)) (ePk 1)))))))))
def Ints (ns : List Int) : List PV := ns.map PV.int
theorem Ints_len (ns : List Int) : (Ints ns).length = ns.length := by unfold Ints; rw [List.length_map]
theorem Ints_get (ns : List Int) (i : Nat) : (Ints ns)[i]? = (ns[i]?).map .int := by unfold Ints; rw [List.getElem?_map]
theorem Ints_mem {ns : List Int} {p : PV} (h : p ∈ Ints ns) : ∃ c, c ∈ ns ∧ p = .int c := by
  obtain ⟨c, hc, e⟩ := List.mem_map.mp h
  exact ⟨c, hc, e.symm⟩
theorem Ints_cons (n : Int) (ns : List Int) : Ints (n :: ns) = .int n :: Ints ns := rfl
theorem datNs_Ints (n : Nat) (ns : List Int) : datNs n (Ints ns) = true := datNs_Ints' n ns
theorem eqPs_Ints (a b : List Int) : eqPs (Ints a) (Ints b) = (a == b) := eqPs_Ints' a b
theorem Ints_nil : Ints [] = [] := rfl
theorem Ints_app (a b : List Int) : Ints (a ++ b) = Ints a ++ Ints b := by unfold Ints; rw [List.map_append]
def hand (cells : List Int) (i rest mix cnt : Int) : Sl := .own [.lst (Ints cells), .int i, .int rest, .int mix, .int cnt]
theorem mulOk_r {i j : Int} (h : -(2 ^ 64) < j ∧ j < 2 ^ 64) : mulOk i j = true := by
  unfold mulOk
  simp only [Bool.or_eq_true, decide_eq_true_eq]
  exact .inl (.inr h)
theorem mulOk_l {i j : Int} (h : -(2 ^ 64) < i ∧ i < 2 ^ 64) : mulOk i j = true := by
  unfold mulOk
  simp only [Bool.or_eq_true, decide_eq_true_eq]
  exact .inl (.inl h)
theorem log2_small {j : Int} (h : 0 < j ∧ j < 2 ^ 64) : j.natAbs.log2 < 9000 := by
  have h1 : j.natAbs < 2 ^ 64 := by omega
  have := (Nat.log2_lt (n := j.natAbs) (by omega)).mpr h1
  omega
/-- a hand that may be drawn from -/
def Hd (s : Sl) : Prop := ∃ (cells : List Int) (i : Nat) (rest mix cnt : Int), s = hand cells i rest mix cnt ∧ i ≤ cells.length ∧ 0 ≤ rest ∧ (∀ c ∈ cells, 0 ≤ c)
/-- the part that takes a cell -/
def dA : PSF := (sIf (tAndF (tOf (eBin opEq (eBin opIx (ePk 0) (eC (.int 2))) (eC (.int 0)))) (tOf (eBin opLt (eBin opIx (ePk 0) (eC (.int 1))) (eNary clLen (aCons (eBin opIx (ePk 0) (eC (.int 0))) aNil))))) (sSeq (sSet 2 (eBin opIx (eBin opIx (ePk 0) (eC (.int 0))) (eBin opIx (ePk 0) (eC (.int 1))))) (sSeq (sSetIx 0 (eBin opAdd (eBin opIx (ePk 0) (eC (.int 1))) (eC (.int 1))) (eC (.int 1))) (sSeq (sSetIx 0 (eBin opMod (eNary clInt (aCons (eBin opAdd (eBin opAdd (eBin opMul (eBin opIx (ePk 0) (eC (.int 3))) (eC (.int 69621))) (ePk 2)) (eC (.int 29))) aNil)) (eC (.int 2147483629))) (eC (.int 3))) (sIf (tOf (eBin opGe (ePk 2) (eBin opPow (eC (.int 10)) (eC (.int 18))))) (sSetIx 0 (eVar 2) (eC (.int 2))) sNil)))) sNil)
def dB : PSF := (sIf (tOf (eBin opGt (eBin opIx (ePk 0) (eC (.int 2))) (eC (.int 0)))) (sSeq (sSet 3 (eBin opMod (eNary clInt (aCons (eBin opIx (ePk 0) (eC (.int 2))) aNil)) (ePk 1))) (sSeq (sSetIx 0 (eBin opFdiv (eBin opIx (ePk 0) (eC (.int 2))) (ePk 1)) (eC (.int 2))) (sRet (eVar 3)))) sNil)
def dC : PSF := (sSeq (sSetIx 0 (eBin opAdd (eBin opIx (ePk 0) (eC (.int 4))) (eC (.int 1))) (eC (.int 4))) (sSeq (sSet 4 (eBin opMod (eNary clInt (aCons (eBin opMul (eNary clInt (aCons (eBin opAdd (eBin opIx (ePk 0) (eC (.int 3))) (eBin opMul (eC (.int 7919)) (eBin opIx (ePk 0) (eC (.int 4))))) aNil)) (eC (.int 48271))) aNil)) (eC (.int 2147483647)))) (sSeq (sSet 4 (eBin opMod (eNary clInt (aCons (eBin opMul (ePk 4) (eBin opAdd (eBin opFdiv (ePk 4) (eC (.int 1009))) (eC (.int 69621)))) aNil)) (eC (.int 2147483647)))) (sSeq (sSet 4 (eBin opMod (eNary clInt (aCons (eBin opMul (ePk 4) (eBin opAdd (eBin opFdiv (ePk 4) (eC (.int 2003))) (eC (.int 40692)))) aNil)) (eC (.int 2147483399)))) (sRet (eBin opMod (eNary clInt (aCons (eBin opFdiv (ePk 4) (eC (.int 16))) aNil)) (ePk 1)))))))
theorem draw_abc : F_draw0 = fnF 5 [false, false] (sSeq dA (sSeq dB dC)) := rfl
theorem getA {cells : List Int} {i : Nat} {c : Int} (h : cells[i]? = some c) : (Ints cells)[i]? = some (.int c) := by
  unfold Ints
  rw [List.getElem?_map, h]; rfl
theorem ixN_nat {n i : Nat} (h : i < n) : L2.ixN n (i : Int) = some i := by
  unfold L2.ixN
  simp
  omega
theorem dA_no {cells : List Int} {i : Nat} {rest mix cnt lim : Int} (h : ¬ (rest = 0 ∧ i < cells.length)) : dA [hand cells i rest mix cnt, .fz (.int lim), .un, .un, .un] = some (.nx, [hand cells i rest mix cnt, .fz (.int lim), .un, .un, .un]) := by
  by_cases h1 : rest = 0
  · have h2 : ¬ i < cells.length := fun z => h ⟨h1, z⟩
    simp [dA, hand, Ints_len, Ints_get, fnF, prepP, finP, sNil, sSeq, sIf, sRet, sRetN, sExpr, sSet, sPar, sPar3, sAsg, sSetIx, sFor, gNm, gTp, gsNil, gsCons, eVar, ePk, eMv, eBor, eC, eBin, eNeg, eAndF, eOrF, eNotF, eIf, eChain, eTup, eLst, eNary, eCall, eMeth, eMake, eFld, eSl, oSome, oNone, aNil, aCons, tOf, tAndF, tOrF, tNotF, cont, conts, tmpOf, valOf, valsOf, toVl, Vl.sl, putB, iSeq, seqOf, iRange1, iRange2, iZip2, iZip3, iEnum, opAdd, opSub, opMul, opMod, opFdiv, opPow, opEq, opNe, opLt, opLe, opGt, opGe, opCmp, opIs, opIsNot, opIx, opSl, isNon, clLen, clAbs, clInt, clMax, clMin, clMax2, clMin2, clSum, clAll, clAny, clTuple, clList, clIsi, isTy, isAny, tyP, subTy, eAppend, eExtend, L2.atI, L2.ixN, datN_i, datN_n, datN_b, datN_l, datN_t, datNs_Ints, datNs_nil, eqP_ii, eqP_ll, eqP_tt, eqP_nn, eqP_bb, eqPs_Ints, eqPs_nn, eqPs_nc, eqPs_cn, lineN, h1]
    omega
  · simp [dA, hand, Ints_len, Ints_get, fnF, prepP, finP, sNil, sSeq, sIf, sRet, sRetN, sExpr, sSet, sPar, sPar3, sAsg, sSetIx, sFor, gNm, gTp, gsNil, gsCons, eVar, ePk, eMv, eBor, eC, eBin, eNeg, eAndF, eOrF, eNotF, eIf, eChain, eTup, eLst, eNary, eCall, eMeth, eMake, eFld, eSl, oSome, oNone, aNil, aCons, tOf, tAndF, tOrF, tNotF, cont, conts, tmpOf, valOf, valsOf, toVl, Vl.sl, putB, iSeq, seqOf, iRange1, iRange2, iZip2, iZip3, iEnum, opAdd, opSub, opMul, opMod, opFdiv, opPow, opEq, opNe, opLt, opLe, opGt, opGe, opCmp, opIs, opIsNot, opIx, opSl, isNon, clLen, clAbs, clInt, clMax, clMin, clMax2, clMin2, clSum, clAll, clAny, clTuple, clList, clIsi, isTy, isAny, tyP, subTy, eAppend, eExtend, L2.atI, L2.ixN, datN_i, datN_n, datN_b, datN_l, datN_t, datNs_Ints, datNs_nil, eqP_ii, eqP_ll, eqP_tt, eqP_nn, eqP_bb, eqPs_Ints, eqPs_nn, eqPs_nc, eqPs_cn, lineN, h1]
theorem dA_yes {cells : List Int} {i : Nat} {mix cnt lim c : Int} (h : cells[i]? = some c) : dA [hand cells i 0 mix cnt, .fz (.int lim), .un, .un, .un] = some (.nx, [hand cells (i + 1) (if 10 ^ 18 ≤ c then c else 0) ((mix * 69621 + c + 29) % 2147483629) cnt, .fz (.int lim), .fz (.int c), .un, .un]) := by
  obtain ⟨hi, rfl⟩ := List.getElem?_eq_some_iff.mp h
  have hm : mulOk mix 69621 = true := mulOk_r (by omega)
  have hn : (Ints cells).length = cells.length := by simp [Ints]
  by_cases hc : (1000000000000000000 : Int) ≤ cells[i]
  · simp [dA, hand, Ints_len, Ints_get, fnF, prepP, finP, sNil, sSeq, sIf, sRet, sRetN, sExpr, sSet, sPar, sPar3, sAsg, sSetIx, sFor, gNm, gTp, gsNil, gsCons, eVar, ePk, eMv, eBor, eC, eBin, eNeg, eAndF, eOrF, eNotF, eIf, eChain, eTup, eLst, eNary, eCall, eMeth, eMake, eFld, eSl, oSome, oNone, aNil, aCons, tOf, tAndF, tOrF, tNotF, cont, conts, tmpOf, valOf, valsOf, toVl, Vl.sl, putB, iSeq, seqOf, iRange1, iRange2, iZip2, iZip3, iEnum, opAdd, opSub, opMul, opMod, opFdiv, opPow, opEq, opNe, opLt, opLe, opGt, opGe, opCmp, opIs, opIsNot, opIx, opSl, isNon, clLen, clAbs, clInt, clMax, clMin, clMax2, clMin2, clSum, clAll, clAny, clTuple, clList, clIsi, isTy, isAny, tyP, subTy, eAppend, eExtend, L2.atI, L2.ixN, datN_i, datN_n, datN_b, datN_l, datN_t, datNs_Ints, datNs_nil, eqP_ii, eqP_ll, eqP_tt, eqP_nn, eqP_bb, eqPs_Ints, eqPs_nn, eqPs_nc, eqPs_cn, lineN, hi, hm, hc]
  · simp [dA, hand, Ints_len, Ints_get, fnF, prepP, finP, sNil, sSeq, sIf, sRet, sRetN, sExpr, sSet, sPar, sPar3, sAsg, sSetIx, sFor, gNm, gTp, gsNil, gsCons, eVar, ePk, eMv, eBor, eC, eBin, eNeg, eAndF, eOrF, eNotF, eIf, eChain, eTup, eLst, eNary, eCall, eMeth, eMake, eFld, eSl, oSome, oNone, aNil, aCons, tOf, tAndF, tOrF, tNotF, cont, conts, tmpOf, valOf, valsOf, toVl, Vl.sl, putB, iSeq, seqOf, iRange1, iRange2, iZip2, iZip3, iEnum, opAdd, opSub, opMul, opMod, opFdiv, opPow, opEq, opNe, opLt, opLe, opGt, opGe, opCmp, opIs, opIsNot, opIx, opSl, isNon, clLen, clAbs, clInt, clMax, clMin, clMax2, clMin2, clSum, clAll, clAny, clTuple, clList, clIsi, isTy, isAny, tyP, subTy, eAppend, eExtend, L2.atI, L2.ixN, datN_i, datN_n, datN_b, datN_l, datN_t, datNs_Ints, datNs_nil, eqP_ii, eqP_ll, eqP_tt, eqP_nn, eqP_bb, eqPs_Ints, eqPs_nn, eqPs_nc, eqPs_cn, lineN, hi, hm, hc]
theorem dB_no {cells : List Int} {i mix cnt lim : Int} {a b c : Sl} : dB [hand cells i 0 mix cnt, .fz (.int lim), a, b, c] = some (.nx, [hand cells i 0 mix cnt, .fz (.int lim), a, b, c]) := by
  simp [dB, hand, fnF, prepP, finP, sNil, sSeq, sIf, sRet, sRetN, sExpr, sSet, sPar, sPar3, sAsg, sSetIx, sFor, gNm, gTp, gsNil, gsCons, eVar, ePk, eMv, eBor, eC, eBin, eNeg, eAndF, eOrF, eNotF, eIf, eChain, eTup, eLst, eNary, eCall, eMeth, eMake, eFld, eSl, oSome, oNone, aNil, aCons, tOf, tAndF, tOrF, tNotF, cont, conts, tmpOf, valOf, valsOf, toVl, Vl.sl, putB, iSeq, seqOf, iRange1, iRange2, iZip2, iZip3, iEnum, opAdd, opSub, opMul, opMod, opFdiv, opPow, opEq, opNe, opLt, opLe, opGt, opGe, opCmp, opIs, opIsNot, opIx, opSl, isNon, clLen, clAbs, clInt, clMax, clMin, clMax2, clMin2, clSum, clAll, clAny, clTuple, clList, clIsi, isTy, isAny, tyP, subTy, eAppend, eExtend, L2.atI, L2.ixN, datN_i, datN_n, datN_b, datN_l, datN_t, datNs_Ints, datNs_nil, eqP_ii, eqP_ll, eqP_tt, eqP_nn, eqP_bb, eqPs_Ints, eqPs_nn, eqPs_nc, eqPs_cn, lineN]
theorem dB_yes {cells : List Int} {i rest mix cnt lim : Int} {a b c : Sl} (h : 0 < rest) (hl : 0 < lim ∧ lim < 2 ^ 64) : dB [hand cells i rest mix cnt, .fz (.int lim), a, b, c] = some (.rt (.fz (.int (rest % lim))), [hand cells i (rest / lim) mix cnt, .fz (.int lim), a, .fz (.int (rest % lim)), c]) := by
  have h2 := log2_small hl
  simp [dB, hand, fnF, prepP, finP, sNil, sSeq, sIf, sRet, sRetN, sExpr, sSet, sPar, sPar3, sAsg, sSetIx, sFor, gNm, gTp, gsNil, gsCons, eVar, ePk, eMv, eBor, eC, eBin, eNeg, eAndF, eOrF, eNotF, eIf, eChain, eTup, eLst, eNary, eCall, eMeth, eMake, eFld, eSl, oSome, oNone, aNil, aCons, tOf, tAndF, tOrF, tNotF, cont, conts, tmpOf, valOf, valsOf, toVl, Vl.sl, putB, iSeq, seqOf, iRange1, iRange2, iZip2, iZip3, iEnum, opAdd, opSub, opMul, opMod, opFdiv, opPow, opEq, opNe, opLt, opLe, opGt, opGe, opCmp, opIs, opIsNot, opIx, opSl, isNon, clLen, clAbs, clInt, clMax, clMin, clMax2, clMin2, clSum, clAll, clAny, clTuple, clList, clIsi, isTy, isAny, tyP, subTy, eAppend, eExtend, L2.atI, L2.ixN, datN_i, datN_n, datN_b, datN_l, datN_t, datNs_Ints, datNs_nil, eqP_ii, eqP_ll, eqP_tt, eqP_nn, eqP_bb, eqPs_Ints, eqPs_nn, eqPs_nc, eqPs_cn, lineN, h, hl, h2]
theorem dC_of {cells : List Int} {i mix cnt lim : Int} {a b c : Sl} (hl : 0 < lim ∧ lim < 2 ^ 64) : ∃ r x, dC [hand cells i 0 mix cnt, .fz (.int lim), a, b, c] = some (.rt (.fz (.int r)), [hand cells i 0 mix (cnt + 1), .fz (.int lim), a, b, x]) ∧ 0 ≤ r ∧ r < lim := by
  have h1 : mulOk 7919 (cnt + 1) = true := mulOk_l (by omega)
  have h2 : ∀ j : Int, mulOk j 48271 = true := fun j => mulOk_r (by omega)
  have h3 : ∀ j k : Int, mulOk (j % 2147483647) k = true := fun j k => mulOk_l (by omega)
  have g1 : Nat.log2 1009 < 9000 := by decide +kernel
  have g2 : Nat.log2 2003 < 9000 := by decide +kernel
  have g3 : Nat.log2 16 < 9000 := by decide +kernel
  refine ⟨_, _, by
    simp [dC, hand, fnF, prepP, finP, sNil, sSeq, sIf, sRet, sRetN, sExpr, sSet, sPar, sPar3, sAsg, sSetIx, sFor, gNm, gTp, gsNil, gsCons, eVar, ePk, eMv, eBor, eC, eBin, eNeg, eAndF, eOrF, eNotF, eIf, eChain, eTup, eLst, eNary, eCall, eMeth, eMake, eFld, eSl, oSome, oNone, aNil, aCons, tOf, tAndF, tOrF, tNotF, cont, conts, tmpOf, valOf, valsOf, toVl, Vl.sl, putB, iSeq, seqOf, iRange1, iRange2, iZip2, iZip3, iEnum, opAdd, opSub, opMul, opMod, opFdiv, opPow, opEq, opNe, opLt, opLe, opGt, opGe, opCmp, opIs, opIsNot, opIx, opSl, isNon, clLen, clAbs, clInt, clMax, clMin, clMax2, clMin2, clSum, clAll, clAny, clTuple, clList, clIsi, isTy, isAny, tyP, subTy, eAppend, eExtend, L2.atI, L2.ixN, datN_i, datN_n, datN_b, datN_l, datN_t, datNs_Ints, datNs_nil, eqP_ii, eqP_ll, eqP_tt, eqP_nn, eqP_bb, eqPs_Ints, eqPs_nn, eqPs_nc, eqPs_cn, lineN, h1, h2, h3, hl, g1, g2, g3]
    exact ⟨rfl, rfl⟩, ?_, ?_⟩
  · exact Int.emod_nonneg _ (by omega)
  · exact Int.emod_lt_of_pos _ (by omega)
theorem draw_spec {s : Sl} {lim : Int} (h : Hd s) (hl : 0 < lim ∧ lim < 2 ^ 64) : ∃ r s', F_draw0 [s, .fz (.int lim)] = some (.fz (.int r), [s', .fz (.int lim)]) ∧ 0 ≤ r ∧ r < lim ∧ Hd s' := by
  obtain ⟨cells, i, rest, mix, cnt, rfl, hi, hr, hc⟩ := h
  have key : ∀ (i : Nat) (rest mix cnt : Int) (a : Sl), i ≤ cells.length → 0 ≤ rest → dA [hand cells i rest mix cnt, .fz (.int lim), .un, .un, .un] = some (.nx, [hand cells i rest mix cnt, .fz (.int lim), a, .un, .un]) → True := fun _ _ _ _ _ _ _ _ => trivial
  obtain ⟨i', rest', mix', a, e1, hi', hr'⟩ : ∃ (i' : Nat) (rest' mix' : Int) (a : Sl), dA [hand cells i rest mix cnt, .fz (.int lim), .un, .un, .un] = some (.nx, [hand cells i' rest' mix' cnt, .fz (.int lim), a, .un, .un]) ∧ i' ≤ cells.length ∧ 0 ≤ rest' := by
    by_cases h1 : rest = 0 ∧ i < cells.length
    · obtain ⟨rfl, h2⟩ := h1
      have e := dA_yes (mix := mix) (cnt := cnt) (lim := lim) (List.getElem?_eq_getElem h2)
      refine ⟨i + 1, _, _, _, by rw [show ((i + 1 : Nat) : Int) = (i : Int) + 1 by omega]; exact e, h2, ?_⟩
      split
      · exact hc _ (List.getElem_mem h2)
      · omega
    · exact ⟨i, rest, mix, .un, dA_no h1, hi, hr⟩
  rw [draw_abc]
  by_cases h2 : 0 < rest'
  · have e2 := dB_yes (cells := cells) (i := i') (mix := mix') (cnt := cnt) (a := a) (b := .un) (c := .un) h2 hl
    refine ⟨rest' % lim, hand cells i' (rest' / lim) mix' cnt, ?_, Int.emod_nonneg _ (by omega), Int.emod_lt_of_pos _ (by omega), cells, i', _, _, _, rfl, hi', Int.ediv_nonneg hr' (by omega), hc⟩
    simp [fnF, prepP, sSeq, e1, e2, finP]
  · have h3 : rest' = 0 := by omega
    subst h3
    obtain ⟨r, x, e3, h4, h5⟩ := dC_of (cells := cells) (i := i') (mix := mix') (cnt := cnt) (a := a) (b := .un) (c := .un) hl
    refine ⟨r, hand cells i' 0 mix' (cnt + 1), ?_, h4, h5, cells, i', _, _, _, rfl, hi', Int.le_refl _, hc⟩
    simp [fnF, prepP, sSeq, e1, dB_no, e3, finP]
end PL
set_option Elab.async false
set_option linter.all false
set_option maxRecDepth 100000
set_option maxHeartbeats 4000000
/-! PLq: loops and list comprehensions worked out. -/
namespace PL
open PySem PySem.Spec PyProof.Rows L2

theorem backS_get {ρ : List Sl} {i : Nat} : ∀ {vs : List Nat} {ss : List Sl}, i ∉ vs → (backS ρ vs ss)[i]? = ρ[i]?
  | [], ss, _ => by unfold backS; rfl
  | v :: vs, [], _ => by unfold backS; rfl
  | v :: vs, s :: ss, h => by
    rw [List.mem_cons, not_or] at h
    unfold backS
    rw [List.getElem?_set_ne (fun z => h.1 z.symm), backS_get h.2]
theorem backS_back {ρ : List Sl} : ∀ {vs : List Nat} {ss ts : List Sl}, ss.length = vs.length → ts.length = vs.length → vs.Nodup → backS (backS ρ vs ss) vs ts = backS ρ vs ts
  | [], [], [], _, _, _ => by unfold backS; rfl
  | [], _ :: _, _, h, _, _ => by cases h
  | [], _, _ :: _, _, h, _ => by cases h
  | _ :: _, [], _, h, _, _ => by cases h
  | _ :: _, _, [], _, h, _ => by cases h
  | v :: vs, s :: ss, t :: ts, h1, h2, nd => by
    rw [List.nodup_cons] at nd
    have set_back : ∀ (us : List Nat) (xs : List Sl) (τ : List Sl), v ∉ us → backS (τ.set v s) us xs = (backS τ us xs).set v s := by
      intro us
      induction us with
      | nil => intro xs τ _; unfold backS; rfl
      | cons u us ih =>
        intro xs τ hu
        rw [List.mem_cons, not_or] at hu
        cases xs with
        | nil => unfold backS; rfl
        | cons x xs =>
          unfold backS
          rw [ih xs τ hu.2, List.set_comm _ _ (fun z => hu.1 z)]
    show (backS ((backS ρ vs ss).set v s) vs ts).set v t = (backS ρ vs ts).set v t
    rw [set_back vs ts _ nd.1, List.set_set, backS_back (by simpa using h1) (by simpa using h2) nd.2]
theorem keepS_back {ρ : List Sl} : ∀ {vs : List Nat}, (∀ v ∈ vs, v < ρ.length) → backS ρ vs (keepS ρ vs) = ρ
  | [], _ => by unfold backS; rfl
  | v :: vs, h => by
    have hv := h v List.mem_cons_self
    have ih := keepS_back (ρ := ρ) (vs := vs) fun u hu => h u (List.mem_cons_of_mem _ hu)
    show (backS ρ vs (keepS ρ vs)).set v ((ρ[v]?).getD .un) = ρ
    rw [ih, List.getElem?_eq_getElem hv]
    exact List.set_getElem_self hv
theorem keepS_len {ρ : List Sl} {vs : List Nat} : (keepS ρ vs).length = vs.length := by unfold keepS; rw [List.length_map]
theorem wipe_back {ρ : List Sl} : ∀ {vs : List Nat}, wipeS ρ vs = backS ρ vs (vs.map fun _ => .un)
  | [] => by unfold wipeS backS; rfl
  | v :: vs => by
    show (wipeS ρ vs).set v .un = (backS ρ vs (vs.map fun _ => .un)).set v .un
    rw [wipe_back]
theorem wipe_backS {ρ : List Sl} {vs : List Nat} {ss : List Sl} (h : ss.length = vs.length) (nd : vs.Nodup) : wipeS (backS ρ vs ss) vs = wipeS ρ vs := by
  rw [wipe_back, wipe_back, backS_back h (by rw [List.length_map]) nd]
/-- a comprehension that changes nothing -/
theorem lcP_pure {vs : List Nat} {g : PGF} {tt : PT'} {fe : PF} {ρ0 : List Sl} (tb : PV → Bool) (h : PV → PV) (nd : vs.Nodup) : ∀ (items : List PV) (us : List Sl), us.length = vs.length →
    (∀ p ∈ items, ∃ ρ1 ys, g p (wipeS ρ0 vs) = some ρ1 ∧ ys.length = vs.length ∧ tt ρ1 = some (tb p, backS ρ0 vs ys) ∧ (tb p = true → ∃ x zs, zs.length = vs.length ∧ fe (backS ρ0 vs ys) = some (x, backS ρ0 vs zs) ∧ valOf x = some (h p))) →
    ∃ ws, ws.length = vs.length ∧ lcP vs g tt fe items (backS ρ0 vs us) = some ((items.filter tb).map h, backS ρ0 vs ws)
  | [], us, lu, _ => ⟨us, lu, rfl⟩
  | p :: ps, us, lu, st => by
    obtain ⟨ρ1, ys, h1, h2, h3, h4⟩ := st p List.mem_cons_self
    have st' := fun q hq => st q (List.mem_cons_of_mem _ hq)
    unfold lcP
    rw [wipe_backS lu nd, h1, Option.bind_some, h3, Option.bind_some]
    cases hb : tb p with
    | true =>
      obtain ⟨x, zs, h5, h6, h7⟩ := h4 hb
      obtain ⟨ws, lw, e⟩ := lcP_pure tb h nd ps zs h5 st'
      refine ⟨ws, lw, ?_⟩
      rw [if_pos rfl, h6, Option.bind_some]
      dsimp only
      rw [h7, Option.bind_some, e, List.filter_cons_of_pos hb]
      rfl
    | false =>
      obtain ⟨ws, lw, e⟩ := lcP_pure tb h nd ps ys h2 st'
      refine ⟨ws, lw, ?_⟩
      rw [if_neg (by simp), e, List.filter_cons_of_neg (by rw [hb]; simp)]
theorem eLc_if {vs : List Nat} {w : PIF} {g : PGF} {tt : PT'} {fe : PF} {items : List PV} {rs ρ ρ0 : List Sl} (tb : PV → Bool) (h : PV → PV) (hw : w ρ = some (items, rs, ρ0)) (hrs : putB rs (rs.map tmpOf) ρ0 = ρ0) (nd : vs.Nodup) (hr : ∀ v ∈ vs, v < ρ0.length)
    (st : ∀ p ∈ items, ∃ ρ1 ys, g p (wipeS ρ0 vs) = some ρ1 ∧ ys.length = vs.length ∧ tt ρ1 = some (tb p, backS ρ0 vs ys) ∧ (tb p = true → ∃ x zs, zs.length = vs.length ∧ fe (backS ρ0 vs ys) = some (x, backS ρ0 vs zs) ∧ valOf x = some (h p))) :
    eLc w vs g tt fe ρ = some (.own ((items.filter tb).map h), ρ0) := by
  obtain ⟨ws, lw, e⟩ := lcP_pure (ρ0 := ρ0) tb h nd items (keepS ρ0 vs) keepS_len st
  rw [keepS_back hr] at e
  unfold eLc
  rw [hw, Option.bind_some]
  dsimp only
  rw [e]
  show some (_, _) = some (_, _)
  rw [backS_back lw keepS_len nd, keepS_back hr, hrs]
theorem eLc_map {vs : List Nat} {w : PIF} {g : PGF} {fe : PF} {items : List PV} {rs ρ ρ0 : List Sl} (h : PV → PV) (hw : w ρ = some (items, rs, ρ0)) (hrs : putB rs (rs.map tmpOf) ρ0 = ρ0) (nd : vs.Nodup) (hr : ∀ v ∈ vs, v < ρ0.length)
    (st : ∀ p ∈ items, ∃ ys x zs, g p (wipeS ρ0 vs) = some (backS ρ0 vs ys) ∧ ys.length = vs.length ∧ zs.length = vs.length ∧ fe (backS ρ0 vs ys) = some (x, backS ρ0 vs zs) ∧ valOf x = some (h p)) :
    eLc w vs g tTrue fe ρ = some (.own (items.map h), ρ0) := by
  have := eLc_if (tt := tTrue) (fun _ => true) h hw hrs nd hr fun p hp => by
    obtain ⟨ys, x, zs, h1, h2, h3, h4, h5⟩ := st p hp
    exact ⟨_, ys, h1, h2, rfl, fun _ => ⟨x, zs, h3, h4, h5⟩⟩
  rw [this, List.filter_eq_self.mpr (fun _ _ => rfl)]
/-- a comprehension that hands a state on -/
theorem lcP_ex {vs : List Nat} {g : PGF} {fe : PF} {I : List Sl → Prop} {P : PV → PV → Prop} : ∀ (items : List PV) (ρ : List Sl), I ρ →
    (∀ p ∈ items, ∀ ρ, I ρ → ∃ ρ1 ρ2 x q, g p (wipeS ρ vs) = some ρ1 ∧ fe ρ1 = some (x, ρ2) ∧ valOf x = some q ∧ P p q ∧ I ρ2) →
    ∃ qs ρ', lcP vs g tTrue fe items ρ = some (qs, ρ') ∧ I ρ' ∧ qs.length = items.length ∧ ∀ (j : Nat) (p q : PV), items[j]? = some p → qs[j]? = some q → P p q
  | [], ρ, h, _ => ⟨[], ρ, rfl, h, rfl, fun j p q h1 _ => by simp at h1⟩
  | p :: ps, ρ, h, st => by
    obtain ⟨ρ1, ρ2, x, q, h1, h2, h3, h4, h5⟩ := st p List.mem_cons_self ρ h
    obtain ⟨qs, ρ', e, h6, h7, h8⟩ := lcP_ex ps ρ2 h5 fun q hq => st q (List.mem_cons_of_mem _ hq)
    refine ⟨q :: qs, ρ', ?_, h6, by rw [List.length_cons, List.length_cons, h7], fun j a b g1 g2 => ?_⟩
    · unfold lcP
      rw [h1, Option.bind_some]
      rw [show tTrue ρ1 = some (true, ρ1) from rfl, Option.bind_some]
      dsimp only
      rw [if_pos rfl, h2, Option.bind_some]
      dsimp only
      rw [h3, Option.bind_some, e]; rfl
    · cases j with
      | zero => simp at g1 g2; subst g1 g2; exact h4
      | succ j => exact h8 j a b (by simpa using g1) (by simpa using g2)
theorem eLc_ex {vs : List Nat} {w : PIF} {g : PGF} {fe : PF} {items : List PV} {rs ρ ρ0 : List Sl} {I : List Sl → Prop} {P : PV → PV → Prop} (hw : w ρ = some (items, rs, ρ0)) (h0 : I ρ0)
    (st : ∀ p ∈ items, ∀ ρ, I ρ → ∃ ρ1 ρ2 x q, g p (wipeS ρ vs) = some ρ1 ∧ fe ρ1 = some (x, ρ2) ∧ valOf x = some q ∧ P p q ∧ I ρ2) :
    ∃ qs ρ', eLc w vs g tTrue fe ρ = some (.own qs, putB rs (rs.map tmpOf) (backS ρ' vs (keepS ρ0 vs))) ∧ I ρ' ∧ qs.length = items.length ∧ ∀ (j : Nat) (p q : PV), items[j]? = some p → qs[j]? = some q → P p q := by
  obtain ⟨qs, ρ', e, h⟩ := lcP_ex items ρ0 h0 st
  refine ⟨qs, ρ', ?_, h⟩
  unfold eLc
  rw [hw, Option.bind_some]
  dsimp only
  rw [e]; rfl
/-- a loop that runs through -/
theorem forP_ex {g : PGF} {body : PSF} {I : List Sl → Nat → Prop} : ∀ (items : List PV) (k : Nat) (ρ : List Sl), I ρ k →
    (∀ (j : Nat) (p : PV) (ρ : List Sl), items[j]? = some p → I ρ (k + j) → ∃ ρ1 ρ2, g p ρ = some ρ1 ∧ (body ρ1 = some (.nx, ρ2) ∨ body ρ1 = some (.ct, ρ2)) ∧ I ρ2 (k + j + 1)) →
    ∃ ρ', forP g body items ρ = some (.nx, ρ') ∧ I ρ' (k + items.length)
  | [], k, ρ, h, _ => ⟨ρ, rfl, h⟩
  | p :: ps, k, ρ, h, st => by
    obtain ⟨ρ1, ρ2, h1, h2, h3⟩ := st 0 p ρ rfl h
    obtain ⟨ρ', e, h4⟩ := forP_ex ps (k + 1) ρ2 h3 fun j q ρ hq hI => by
      have := st (j + 1) q ρ (by simpa using hq) (by rw [show k + (j + 1) = k + 1 + j by omega]; exact hI)
      rw [show k + (j + 1) + 1 = k + 1 + j + 1 by omega] at this
      exact this
    refine ⟨ρ', ?_, by rw [List.length_cons, show k + (ps.length + 1) = k + 1 + ps.length by omega]; exact h4⟩
    unfold forP
    rw [h1, Option.bind_some]
    rcases h2 with h2 | h2
    · rw [h2, Option.bind_some]; exact e
    · rw [h2, Option.bind_some]; exact e
end PL
set_option Elab.async false
set_option linter.all false
set_option maxRecDepth 100000
set_option maxHeartbeats 4000000
/-! PLr: the laws' own hands; short names for what is worked out often. -/
namespace PL
open PySem
theorem cutP_map {α β : Type} (f : α → β) (xs : List α) (lo hi : Option Int) : cutP (xs.map f) lo hi = (cutP xs lo hi).map f := by
  unfold cutP
  rw [List.length_map, List.map_take, List.map_drop]
theorem cutP_Ints (xs : List Int) (lo hi : Option Int) : cutP (Ints xs) lo hi = Ints (cutP xs lo hi) := cutP_map _ _ _ _
def F_hand0_l1 : PF := eLc (iSeq (eSl (ePk 0) oNone (oSome (eC (.int 63))))) [2] (gNm 2) tTrue (eNary clAbs (aCons (eNary clInt (aCons (ePk 2) aNil)) aNil))
def F_hand0 : FP := fnF 3 [false] (sSeq (sSet 1 F_hand0_l1) (sRet (eLst (aCons (eVar 1) (aCons (eC (.int 0)) (aCons (eC (.int 0)) (aCons (eBin opAdd (eC (.int 83)) (eBin opMul (eC (.int 7)) (eNary clLen (aCons (ePk 1) aNil)))) (aCons (eC (.int 0)) aNil))))))))
def absI (i : Int) : Int := (i.natAbs : Int)
theorem hand_spec (ns : List Int) : ∃ v, F_hand0 [.fz (.scr (Ints ns))] = some (v, [.fz (.scr (Ints ns))]) ∧ Hd v.sl := by
  have e : F_hand0_l1 [.fz (.scr (Ints ns)), .un, .un] = some (.own ((Ints (cutP ns none (some 63))).map fun p => match p with | .int i => .int (absI i) | _ => .non), [.fz (.scr (Ints ns)), .un, .un]) := by
    refine eLc_map (items := Ints (cutP ns none (some 63))) (rs := [.own (Ints (cutP ns none (some 63)))]) _ (by simp [fnF, prepP, finP, sNil, sSeq, sIf, sRet, sRetN, sExpr, sSet, sPar, sPar3, sAsg, sSetIx, sFor, gNm, gTp, gsNil, gsCons, eVar, ePk, eMv, eBor, eC, eBin, eNeg, eAndF, eOrF, eNotF, eIf, eChain, eTup, eLst, eNary, eCall, eMeth, eMake, eFld, eSl, oSome, oNone, aNil, aCons, tOf, tAndF, tOrF, tNotF, cont, conts, tmpOf, valOf, valsOf, toVl, Vl.sl, putB, iSeq, seqOf, iRange1, iRange2, iZip2, iZip3, iEnum, opAdd, opSub, opMul, opMod, opFdiv, opPow, opEq, opNe, opLt, opLe, opGt, opGe, opCmp, opIs, opIsNot, opIx, opSl, isNon, clLen, clAbs, clInt, clMax, clMin, clMax2, clMin2, clSum, clAll, clAny, clTuple, clList, clIsi, isTy, isAny, tyP, subTy, eAppend, eExtend, L2.atI, L2.ixN, datN_i, datN_n, datN_b, datN_l, datN_t, datNs_Ints, datNs_nil, eqP_ii, eqP_ll, eqP_tt, eqP_nn, eqP_bb, eqPs_Ints, eqPs_nn, eqPs_nc, eqPs_cn, lineN, cutP_Ints]) (by simp [fnF, prepP, finP, sNil, sSeq, sIf, sRet, sRetN, sExpr, sSet, sPar, sPar3, sAsg, sSetIx, sFor, gNm, gTp, gsNil, gsCons, eVar, ePk, eMv, eBor, eC, eBin, eNeg, eAndF, eOrF, eNotF, eIf, eChain, eTup, eLst, eNary, eCall, eMeth, eMake, eFld, eSl, oSome, oNone, aNil, aCons, tOf, tAndF, tOrF, tNotF, cont, conts, tmpOf, valOf, valsOf, toVl, Vl.sl, putB, iSeq, seqOf, iRange1, iRange2, iZip2, iZip3, iEnum, opAdd, opSub, opMul, opMod, opFdiv, opPow, opEq, opNe, opLt, opLe, opGt, opGe, opCmp, opIs, opIsNot, opIx, opSl, isNon, clLen, clAbs, clInt, clMax, clMin, clMax2, clMin2, clSum, clAll, clAny, clTuple, clList, clIsi, isTy, isAny, tyP, subTy, eAppend, eExtend, L2.atI, L2.ixN, datN_i, datN_n, datN_b, datN_l, datN_t, datNs_Ints, datNs_nil, eqP_ii, eqP_ll, eqP_tt, eqP_nn, eqP_bb, eqPs_Ints, eqPs_nn, eqPs_nc, eqPs_cn, lineN]) (by decide) (by simp) fun q hq => ?_
    obtain ⟨c, hc, rfl⟩ := Ints_mem hq
    refine ⟨[.fz (.int c)], .fz (.int (absI c)), [.fz (.int c)], ?_⟩
    simp [fnF, prepP, finP, sNil, sSeq, sIf, sRet, sRetN, sExpr, sSet, sPar, sPar3, sAsg, sSetIx, sFor, gNm, gTp, gsNil, gsCons, eVar, ePk, eMv, eBor, eC, eBin, eNeg, eAndF, eOrF, eNotF, eIf, eChain, eTup, eLst, eNary, eCall, eMeth, eMake, eFld, eSl, oSome, oNone, aNil, aCons, tOf, tAndF, tOrF, tNotF, cont, conts, tmpOf, valOf, valsOf, toVl, Vl.sl, putB, iSeq, seqOf, iRange1, iRange2, iZip2, iZip3, iEnum, opAdd, opSub, opMul, opMod, opFdiv, opPow, opEq, opNe, opLt, opLe, opGt, opGe, opCmp, opIs, opIsNot, opIx, opSl, isNon, clLen, clAbs, clInt, clMax, clMin, clMax2, clMin2, clSum, clAll, clAny, clTuple, clList, clIsi, isTy, isAny, tyP, subTy, eAppend, eExtend, L2.atI, L2.ixN, datN_i, datN_n, datN_b, datN_l, datN_t, datNs_Ints, datNs_nil, eqP_ii, eqP_ll, eqP_tt, eqP_nn, eqP_bb, eqPs_Ints, eqPs_nn, eqPs_nc, eqPs_cn, lineN, wipeS, backS, absI]
    split <;> omega
  have e2 : ((Ints (cutP ns none (some 63))).map fun p => match p with | .int i => .int (absI i) | _ => .non) = Ints ((cutP ns none (some 63)).map absI) := by
    unfold Ints
    rw [List.map_map, List.map_map]
    rfl
  rw [e2] at e
  have hp : ∀ c ∈ (cutP ns none (some 63)).map absI, 0 ≤ c := fun c hc => by
    obtain ⟨d, _, rfl⟩ := List.mem_map.mp hc
    unfold absI
    omega
  generalize (cutP ns none (some 63)).map absI = cs at e hp
  have hm : mulOk 7 (cs.length : Int) = true := mulOk_l (by omega)
  refine ⟨.own [.lst (Ints cs), .int 0, .int 0, .int (83 + 7 * cs.length), .int 0], ?_, ?_⟩
  · simp [F_hand0, fnF, prepP, finP, sNil, sSeq, sIf, sRet, sRetN, sExpr, sSet, sPar, sPar3, sAsg, sSetIx, sFor, gNm, gTp, gsNil, gsCons, eVar, ePk, eMv, eBor, eC, eBin, eNeg, eAndF, eOrF, eNotF, eIf, eChain, eTup, eLst, eNary, eCall, eMeth, eMake, eFld, eSl, oSome, oNone, aNil, aCons, tOf, tAndF, tOrF, tNotF, cont, conts, tmpOf, valOf, valsOf, toVl, Vl.sl, putB, iSeq, seqOf, iRange1, iRange2, iZip2, iZip3, iEnum, opAdd, opSub, opMul, opMod, opFdiv, opPow, opEq, opNe, opLt, opLe, opGt, opGe, opCmp, opIs, opIsNot, opIx, opSl, isNon, clLen, clAbs, clInt, clMax, clMin, clMax2, clMin2, clSum, clAll, clAny, clTuple, clList, clIsi, isTy, isAny, tyP, subTy, eAppend, eExtend, L2.atI, L2.ixN, datN_i, datN_n, datN_b, datN_l, datN_t, datNs_Ints, datNs_nil, eqP_ii, eqP_ll, eqP_tt, eqP_nn, eqP_bb, eqPs_Ints, eqPs_nn, eqPs_nc, eqPs_cn, lineN, e, Ints_len, hm]
  · exact ⟨cs, 0, 0, _, 0, rfl, Nat.zero_le _, Int.le_refl _, hp⟩
theorem Hd.own {s : Sl} (h : Hd s) : ∃ xs, s = .own xs := by
  obtain ⟨cells, i, rest, mix, cnt, rfl, _⟩ := h
  exact ⟨_, rfl⟩
/-- a draw within the code: the hand is at place i -/
theorem call_draw {ρ : List Sl} {i : Nat} {s : Sl} {lim : Int} (h : Hd s) (g : ρ[i]? = some s) (hl : 0 < lim ∧ lim < 2 ^ 64) : ∃ r s', eCall F_draw0 (aCons (eBor i) (aCons (eC (.int lim)) aNil)) ρ = some (.fz (.int r), ρ.set i s') ∧ 0 ≤ r ∧ r < lim ∧ Hd s' := by
  obtain ⟨r, s', e, h1, h2, h3⟩ := draw_spec h hl
  obtain ⟨xs, rfl⟩ := h.own
  refine ⟨r, s', ?_, h1, h2, h3⟩
  simp [eCall, aCons, aNil, eBor, eC, g, tmpOf, e, putB, Vl.sl]
/-- .. the limit read from a name -/
theorem call_drawV {ρ : List Sl} {i j : Nat} {s : Sl} {lim : Int} (h : Hd s) (g : ρ[i]? = some s) (g2 : ρ[j]? = some (.fz (.int lim))) (hij : i ≠ j) (hl : 0 < lim ∧ lim < 2 ^ 64) : ∃ r s', eCall F_draw0 (aCons (eBor i) (aCons (eVar j) aNil)) ρ = some (.fz (.int r), ρ.set i s') ∧ 0 ≤ r ∧ r < lim ∧ Hd s' := by
  obtain ⟨r, s', e, h1, h2, h3⟩ := draw_spec h hl
  obtain ⟨xs, rfl⟩ := h.own
  refine ⟨r, s', ?_, h1, h2, h3⟩
  simp [eCall, aCons, aNil, eBor, eVar, g, g2, List.getElem?_set_ne hij, tmpOf, e, putB, Vl.sl]
theorem map_of {items qs : List PV} {h : PV → PV} (l : qs.length = items.length) (e : ∀ (j : Nat) (p q : PV), items[j]? = some p → qs[j]? = some q → q = h p) : qs = items.map h := by
  apply List.ext_getElem?
  intro j
  rw [List.getElem?_map]
  by_cases hj : j < items.length
  · have h1 := List.getElem?_eq_getElem hj
    have h2 := List.getElem?_eq_getElem (show j < qs.length by omega)
    rw [h1, h2, e j _ _ h1 h2]; rfl
  · rw [List.getElem?_eq_none (by omega), List.getElem?_eq_none (by omega)]; rfl
theorem rangeP_mem {n : Nat} {p : PV} (h : p ∈ rangeP 0 n) : ∃ k, k < n ∧ p = .int (k : Nat) := by
  unfold rangeP at h
  obtain ⟨k, hk, rfl⟩ := List.mem_map.mp h
  exact ⟨k, List.mem_range.mp hk, by rw [Int.zero_add]⟩
theorem rangeP_map {n : Nat} {h : PV → PV} : (rangeP 0 n).map h = (List.range n).map fun k => h (.int (k : Nat)) := by
  unfold rangeP
  rw [List.map_map]
  refine List.map_congr_left fun k _ => ?_
  show h (.int (0 + (k : Nat))) = _
  rw [Int.zero_add]
theorem rangeP_get {n k : Nat} {p : PV} (h : (rangeP 0 n)[k]? = some p) : k < n ∧ p = .int (k : Nat) := by
  unfold rangeP at h
  rw [List.getElem?_map, Option.map_eq_some_iff] at h
  obtain ⟨j, h1, h2⟩ := h
  have hk : k < n := by
    have := (List.getElem?_eq_some_iff.mp h1).1
    rwa [List.length_range] at this
  rw [List.getElem?_range hk] at h1
  cases h1
  exact ⟨hk, by rw [← h2, Int.zero_add]⟩
theorem rangeP_len (n : Nat) : (rangeP 0 n).length = n := by unfold rangeP; simp
theorem intsOf_Ints : ∀ ns : List Int, intsOf (Ints ns) = some ns
  | [] => rfl
  | n :: ns => by
    have h := intsOf_Ints ns
    rw [Ints_cons]
    unfold intsOf
    rw [h]; rfl
end PL
set_option Elab.async false
set_option linter.all false
set_option maxRecDepth 100000
set_option maxHeartbeats 4000000
/-! PLs: from the function of the law to the law. -/
namespace PL
open PySem PySem.Spec PyProof.Rows L2
/-- what the law's end asks -/
def spEnd (K : PySem.W.Frag) : Sp := fun vs H Q _ => ∃ (a : Addr) (ns : List Int), vs = [.ref a] ∧ SqL K H a (ns.map V.int) ∧ ns.length ≤ 63 ∧ ∀ H', Q (.bl true) H'
theorem rpl_ints {R : RE} {F : Hp} : ∀ ns : List Int, RpL R F (ns.map PV.int) (ns.map V.int)
  | [] => .nil
  | n :: ns => .cons (.int n) (rpl_ints ns)
theorem end_of {P : Program} {w : World} {K : PySem.W.Frag} {mg : Str → Option Value} {base : Heap} {R : RE} {k : Nat} {f : Addr} {fd : FuncData} {fn : FP} (hf : FnP P w K mg base R k f fd ["script"] fn) (hK : R.K = K) (h : ∀ ns : List Int, ns.length ≤ 63 → ∃ as', fn [.fz (.scr (Ints ns))] = some (.fz (.bl true), as')) :
    FnOk P w K mg base CX0 k f fd ["script"] (spEnd K) :=
  hf.ok.imp fun vs H Q E ⟨a, ns, e, hS, hl, q⟩ => by
    subst e
    obtain ⟨as', e⟩ := h ns hl
    have hB : Bag R ⟨H, H, []⟩ H H [] := ⟨.refl, fun i s o g => by simp at g, fun i j s t o u a g _ _ _ => by simp at g, fun a o q _ => q, fun a ha => by simp at ha, fun i s o a g _ => by simp at g, fun a o q => .inl q, .refl⟩
    have hr : Rp R H (.scr (Ints ns)) (.ref a) := .scr (vs := ns.map V.int) (by rw [hK]; exact hS) (rpl_ints ns)
    have hB2 := hB.push_fz hr
    refine ⟨rfl, H, [.fz (.scr (Ints ns))], .fz (.bl true), as', rfl, ⟨_, hB2⟩, e, fun x H' F' B => ?_⟩
    have hx : Rp R F' (.bl true) x := by
      obtain ⟨y, ey, r⟩ := B.mem (p := ((Vl.fz (.bl true)).sl, some x)) (by simp)
      cases ey
      exact r
    cases hx
    exact q H'
end PL
set_option Elab.async false
set_option linter.all false
set_option maxRecDepth 100000
set_option maxHeartbeats 4000000
/-! PLt: more methods of lists. -/
namespace PL
open PySem PySem.Spec PyProof.Rows L2

/-- where the first equal one stands -/
def idxP (q : PV) : List PV → Option Nat
  | [] => none
  | x :: xs => if eqP x q = true then some 0 else (idxP q xs).map (· + 1)
theorem idxP_spec {q : PV} : ∀ {xs : List PV} {j : Nat}, idxP q xs = some j → (∃ z, xs[j]? = some z ∧ eqP z q = true) ∧ ∀ (m : Nat) (z : PV), m < j → xs[m]? = some z → eqP z q = false
  | [], j, h => by cases h
  | x :: xs, j, h => by
    unfold idxP at h
    split at h
    · rename_i c
      cases h
      exact ⟨⟨x, rfl, c⟩, fun m z hm => by omega⟩
    · rename_i c
      rw [Option.map_eq_some_iff] at h
      obtain ⟨i, h1, rfl⟩ := h
      obtain ⟨⟨z, h2, h3⟩, h4⟩ := idxP_spec h1
      refine ⟨⟨z, by simpa using h2, h3⟩, fun m y hm g => ?_⟩
      cases m with
      | zero =>
        simp at g
        subst g
        simpa using c
      | succ m => exact h4 m y (by omega) (by simpa using g)
theorem toDs_get : ∀ {xs : List PV} {j : Nat} {z : PV}, xs[j]? = some z → (toDs xs)[j]? = some (toD z)
  | [], _, _, h => by simp at h
  | x :: xs, 0, z, h => by simp at h; subst h; rfl
  | x :: xs, j + 1, z, h => by
    rw [toDs, List.getElem?_cons_succ]
    exact toDs_get (by simpa using h)
theorem toDs_get' : ∀ {xs : List PV} {j : Nat} {d : PyData}, (toDs xs)[j]? = some d → ∃ z, xs[j]? = some z ∧ d = toD z
  | [], _, _, h => by simp [toDs] at h
  | x :: xs, 0, d, h => by
    rw [toDs] at h
    simp at h
    exact ⟨x, rfl, h.symm⟩
  | x :: xs, j + 1, d, h => by
    rw [toDs, List.getElem?_cons_succ] at h
    obtain ⟨z, h1, h2⟩ := toDs_get' h
    exact ⟨z, by simpa using h1, h2⟩
def eIndex (fa fb : PF) : PF := fun ρ => (fa ρ).bind fun x => match cont x.2 x.1 with
  | some (.lst _) => (fb x.2).bind fun y => (cont y.2 x.1).bind fun p => (cont y.2 y.1).bind fun q => match p with
    | .lst xs => if datN 60 (.lst xs) = true ∧ datN 60 q = true then (idxP q xs).map fun j => (.fz (.int (j : Nat)), y.2) else none
    | _ => none
  | _ => none
section
variable {X : Cx} {R : RE} {a b : Expr} {fa fb : PF} {pos apos : Pos}
theorem eIndex_some {ρ ρ' : List Sl} {r : Sl} (q : eIndex fa fb ρ = some (r, ρ')) : ∃ r1 ρ1 ys r2 xs p j, fa ρ = some (r1, ρ1) ∧ cont ρ1 r1 = some (.lst ys) ∧ fb ρ1 = some (r2, ρ') ∧ cont ρ' r1 = some (.lst xs) ∧ cont ρ' r2 = some p ∧ datN 60 (.lst xs) = true ∧ datN 60 p = true ∧ idxP p xs = some j ∧ r = .fz (.int (j : Nat)) := by
  unfold eIndex at q
  rw [Option.bind_eq_some_iff] at q
  obtain ⟨⟨r1, ρ1⟩, h1, q⟩ := q
  split at q
  · rename_i ys h2
    rw [Option.bind_eq_some_iff] at q
    obtain ⟨⟨r2, ρ2⟩, h3, q⟩ := q
    rw [Option.bind_eq_some_iff] at q
    obtain ⟨pp, h4, q⟩ := q
    rw [Option.bind_eq_some_iff] at q
    obtain ⟨p, h5, q⟩ := q
    split at q
    · rename_i xs
      split at q
      · rename_i c
        rw [Option.map_eq_some_iff] at q
        obtain ⟨j, h6, q⟩ := q
        cases q
        exact ⟨r1, ρ1, ys, r2, xs, p, j, h1, h2, h3, h4, h5, c.1, c.2, h6, rfl⟩
      · cases q
    · cases q
  · cases q
theorem ev_index (hu : X.A.units + 65 < cLine) (hK : R.K = X.K) (ha : Ev X R a fa) (hb : Ev X R b fb) (hbase : attributeBase a "index" X.env (eval a X.env) = eval a X.env := by rfl)
    (h1 : ((((backTo pos (starEach [b] X.env)).all fun x => !x.fst) && (backToKw pos (keywordEach [] X.env)).all fun x => x.fst.isSome) && decide (([b].length + ([] : List Keyword).length + if ([] : List Keyword).isEmpty = true then 0 else 1) < 30)) = true := by rfl)
    (hline : (apos.endLine == pos.line) = true := by rfl) (he : starEach [b] X.env = (false, eval b X.env) :: starEach [] X.env := by rfl) (hpl : ((backTo pos (starEach [] X.env)).any fun x => x.fst) = false := by rfl) :
    Ev X R (.Call (.Attribute a "index" apos) [b] [] pos) (eIndex fa fb) := by
  refine ⟨fun ρ r ρ' q => ?_, pe_mono (pe_bm PySem.F.plainAttrs_list PySem.F.slot_list_index PySem.F.type_list_index (mt_indexD hu) ha.pe (pa_cons hb.pe pa_nil he) hbase h1 hline he hpl) fun σ H Q q => ?_⟩
  · obtain ⟨r1, ρ1, ys, r2, xs, p, j, q1, _, q2, _⟩ := eIndex_some q
    exact (hb.len _ _ _ q2).trans (ha.len _ _ _ q1)
  · obtain ⟨e, F, ρ, tm, r, ρ', hl, hB, hf, k⟩ := q
    obtain ⟨r1, ρ1, ys, r2, xs, p, j, q1, c1, q2, c2, c3, d1, d2, ij, rfl⟩ := eIndex_some hf
    have l1 := ha.len _ _ _ q1
    have l2 := hb.len _ _ _ q2
    refine ⟨e, F, ρ, tm, r1, ρ1, hl, hB, q1, fun x H1 F1 B1 k1 => ⟨?_, ?_⟩⟩
    · have B1' : Bag R e F1 H1 (ρ1.zip σ ++ tm ++ ([r1].map tmpOf).zip ([x].map some)) := B1
      obtain ⟨rq, B2⟩ := Bag.conts B1' (.cons k1 .nil) (ps := [.lst ys]) (by unfold PL.conts; rw [c1]; rfl)
      cases rq with
      | cons rq _ =>
        obtain ⟨ad, vs, rfl, h2, _⟩ := rq.lst B2.sub
        exact .inl ⟨rfl, _, SqL.of h2⟩
    · refine ⟨e, F1, ρ1, tm ++ [(tmpOf r1, some x)], r2, ρ', by omega, by rw [← List.append_assoc]; exact B1, q2, fun y H2 F2 B2 k2 => ?_⟩
      have B2' : Bag R e F2 H2 (ρ'.zip σ ++ tm ++ ([r1, r2].map tmpOf).zip ([x, y].map some)) := by
        have e1 : ([r1, r2].map tmpOf).zip ([x, y].map some) = [(tmpOf r1, some x)] ++ [(tmpOf r2, some y)] := rfl
        rw [e1, ← List.append_assoc, List.append_assoc (ρ'.zip σ)]
        exact B2
      obtain ⟨rq, B3⟩ := Bag.conts B2' (.cons k1 (.cons k2 .nil)) (ps := [.lst xs, p]) (by unfold PL.conts; rw [c2]; unfold PL.conts; rw [c3]; rfl)
      cases rq with
      | cons rq1 rq =>
        cases rq with
        | cons rq2 _ =>
          have dp1 := rq1.dp B3.sub d1
          have dp2 := rq2.dp B3.sub d2
          rw [hK] at dp1 dp2
          obtain ⟨ad, vs, rfl, h2, _⟩ := rq1.lst B3.sub
          obtain ⟨⟨z, g1, g2⟩, g3⟩ := idxP_spec ij
          have dz : ∀ {m : Nat} {z : PV}, xs[m]? = some z → datN 59 z = true := fun {m z} g => by
            have h3 : datNs 59 xs = true := d1
            rw [datNs_all] at h3
            exact List.all_eq_true.mp h3 z (List.mem_of_getElem? g)
          refine ⟨ad, y, toD p, toDs xs, j, toD z, rfl, rfl, dp1, dp2, shaped_toD d1, shaped_toD d2, toDs_get g1, by rw [eqv_toD 59 60 z p (dz g1) d2]; exact g2, fun m z' hm g => ?_, ?_⟩
          · obtain ⟨z2, g4, rfl⟩ := toDs_get' g
            rw [eqv_toD 59 60 z2 p (dz g4) d2]
            exact g3 m z2 hm g4
          · exact k _ H2 F2 (B3.push_fz (.int _)) pk_fz
end
/-- no promise at all -/
theorem fn_none {P : Program} {w : World} {K : PySem.W.Frag} {mg : Str → Option Value} {base : Heap} {R : RE} {x qual : Str} {st : Stmt} {f : Addr} {fd : FuncData} {N ps : List Str} {k : Nat} (F : Fun K x qual st f fd) (S : FnScope N ps (defScope st)) : FnP P w K mg base R (k + 1) f fd ps (fun _ => none) :=
  ⟨fun as r as' l q => (nomatch q), F.ok S (fun vs H Q E h => h.1) fun cdv A outer s H vs Q E hr h => by
    obtain ⟨lv, F0, as, r, as', la, _, hf, _⟩ := h
    cases hf⟩
end PL
set_option Elab.async false
set_option linter.all false
set_option maxRecDepth 100000
set_option maxHeartbeats 4000000
/-! PLu: lists and tuples of ranges. -/
namespace PL
open PySem PySem.Spec PyProof.Rows L2
/-- list(range(..)) (or tuple), told by what range walks -/
def eListRg (w : PIF) : PF := fun ρ => (w ρ).bind fun x => match x.2.1 with
  | [] => some (.own x.1, x.2.2)
  | _ => none
def eTupRg (w : PIF) : PF := fun ρ => (w ρ).bind fun x => match x.2.1 with
  | [] => some (.fz (.tup x.1), x.2.2)
  | _ => none
section
variable {X : Cx} {R : RE} {a b : Expr} {fa fb : PF} {p pos p2 pos2 : Pos}
theorem rg1_some {ρ ρ' : List Sl} {items : List PV} {rs : List Sl} (q : iRange1 fa ρ = some (items, rs, ρ')) : ∃ j, fa ρ = some (.fz (.int j), ρ') ∧ (-lineN ≤ j ∧ j ≤ lineN) ∧ items = rangeP 0 j.toNat ∧ rs = [] := by
  unfold iRange1 at q
  rw [Option.bind_eq_some_iff] at q
  obtain ⟨⟨r, ρ1⟩, h1, q⟩ := q
  split at q
  · rename_i j e1
    dsimp only at e1
    subst e1
    split at q
    · cases q; exact ⟨j, h1, by assumption, rfl, rfl⟩
    · cases q
  · cases q
theorem rg2_some {ρ ρ' : List Sl} {items : List PV} {rs : List Sl} (q : iRange2 fa fb ρ = some (items, rs, ρ')) : ∃ i j ρ1, fa ρ = some (.fz (.int i), ρ1) ∧ fb ρ1 = some (.fz (.int j), ρ') ∧ (-(2 ^ 62) ≤ i ∧ j < 2 ^ 62 ∧ i < 2 ^ 62 ∧ -(2 ^ 62) ≤ j ∧ j - i ≤ lineN) ∧ items = rangeP i (j - i).toNat ∧ rs = [] := by
  unfold iRange2 at q
  rw [Option.bind_eq_some_iff] at q
  obtain ⟨⟨r, ρ1⟩, h1, q⟩ := q
  rw [Option.bind_eq_some_iff] at q
  obtain ⟨⟨r2, ρ2⟩, h2, q⟩ := q
  split at q
  · rename_i i j e1 e2
    dsimp only at e1 e2
    subst e1 e2
    split at q
    · cases q; exact ⟨i, j, ρ1, h1, h2, by assumption, rfl, rfl⟩
    · cases q
  · cases q
theorem rpl_range {F : Hp} (lo : Int) (n : Nat) : RpL R F (rangeP lo n) ((List.range n).map fun i => V.int (lo + (i : Nat))) := by
  unfold rangeP
  have : ∀ ks : List Nat, RpL R F (ks.map fun k => PV.int (lo + (k : Nat))) (ks.map fun i => V.int (lo + (i : Nat))) := by
    intro ks
    induction ks with
    | nil => exact .nil
    | cons k ks ih => exact .cons (.int _) ih
  exact this _
theorem listRg_some {w : PIF} {ρ ρ' : List Sl} {r : Sl} (q : eListRg w ρ = some (r, ρ')) : ∃ items, w ρ = some (items, [], ρ') ∧ r = .own items := by
  unfold eListRg at q
  rw [Option.bind_eq_some_iff] at q
  obtain ⟨⟨items, rs, ρ1⟩, h1, q⟩ := q
  split at q
  · rename_i e
    dsimp only at e
    subst e
    cases q
    exact ⟨items, h1, rfl⟩
  · cases q
theorem ev_listRg1 (hc : X.calm = true) (hl : Gl X "list") (hml : X.mg "list" = none) (hg : Gl X "range") (hm : X.mg "range" = none) (ha : Ev X R a fa) (h1 : starEach [a] X.env = (false, eval a X.env) :: starEach [] X.env := by rfl)
    (h2 : starEach [.Call (.Name "range" p2) [a] [] pos2] X.env = (false, eval (.Call (.Name "range" p2) [a] [] pos2) X.env) :: starEach [] X.env := by rfl) :
    Ev X R (.Call (.Name "list" p) [.Call (.Name "range" p2) [a] [] pos2] [] pos) (eListRg (iRange1 fa)) := by
  refine ⟨fun ρ r ρ' q => ?_, pe_mono (pe_listRg hc hl hml (prg_1 hg hm ha.pe h1) h2) fun σ H Q q => ?_⟩
  · obtain ⟨items, q, _⟩ := listRg_some q
    obtain ⟨j, q, _⟩ := rg1_some q
    exact ha.len _ _ _ q
  · obtain ⟨e, F, ρ, tm, r, ρ', hl, hB, hf, k⟩ := q
    obtain ⟨items, hf2, rfl⟩ := listRg_some hf
    obtain ⟨j, q1, hj, rfl, _⟩ := rg1_some hf2
    refine ⟨e, F, ρ, tm, _, ρ', hl, hB, q1, fun x H1 F1 B1 _ => ?_⟩
    have ex := (B1.rq_fz (x := x) (p := .int j) app_last).int
    have hL : (lineN : Int) = 16777216 := rfl
    refine ⟨j, ex, ⟨by decide, by decide, by omega, by omega, by omega⟩, fun q nq => ?_⟩
    have e1 : rgV 0 j = (List.range j.toNat).map fun i => V.int (0 + (i : Nat)) := by unfold rgV; rw [Int.sub_zero]
    rw [e1]
    exact k _ _ F1 (B1.pop.new_lst nq (rpl_range 0 j.toNat)) pk_own
theorem ev_listRg2 (hc : X.calm = true) (hl : Gl X "list") (hml : X.mg "list" = none) (hg : Gl X "range") (hm : X.mg "range" = none) (ha : Ev X R a fa) (hb : Ev X R b fb) (h1 : starEach [a, b] X.env = (false, eval a X.env) :: starEach [b] X.env := by rfl) (h1b : starEach [b] X.env = (false, eval b X.env) :: starEach [] X.env := by rfl)
    (h1c : ((backTo pos2 (starEach [b] X.env)).any fun x => x.fst) = false := by rfl)
    (h2 : starEach [.Call (.Name "range" p2) [a, b] [] pos2] X.env = (false, eval (.Call (.Name "range" p2) [a, b] [] pos2) X.env) :: starEach [] X.env := by rfl) :
    Ev X R (.Call (.Name "list" p) [.Call (.Name "range" p2) [a, b] [] pos2] [] pos) (eListRg (iRange2 fa fb)) := by
  refine ⟨fun ρ r ρ' q => ?_, pe_mono (pe_listRg hc hl hml (prg_2 hg hm ha.pe hb.pe h1 h1b h1c) h2) fun σ H Q q => ?_⟩
  · obtain ⟨items, q, _⟩ := listRg_some q
    obtain ⟨i, j, ρ1, q1, q2, _⟩ := rg2_some q
    exact (hb.len _ _ _ q2).trans (ha.len _ _ _ q1)
  · obtain ⟨e, F, ρ, tm, r, ρ', hl, hB, hf, k⟩ := q
    obtain ⟨items, hf2, rfl⟩ := listRg_some hf
    obtain ⟨i, j, ρ1, q1, q2, hj, rfl, _⟩ := rg2_some hf2
    have l1 := ha.len _ _ _ q1
    refine ⟨e, F, ρ, tm, _, ρ1, hl, hB, q1, fun x H1 F1 B1 _ => ?_⟩
    have ex := (B1.rq_fz (x := x) (p := .int i) app_last).int
    refine ⟨e, F1, ρ1, tm, _, ρ', by omega, B1.pop, q2, fun y H2 F2 B2 _ => ?_⟩
    have ey := (B2.rq_fz (x := y) (p := .int j) app_last).int
    have hL : (lineN : Int) = 16777216 := rfl
    refine ⟨i, j, ex, ey, ⟨hj.1, hj.2.2.1, hj.2.2.2.1, hj.2.1, by omega⟩, fun q nq => ?_⟩
    exact k _ _ F2 (B2.pop.new_lst nq (rpl_range i (j - i).toNat)) pk_own
end
end PL
set_option Elab.async false
set_option linter.all false
set_option maxRecDepth 100000
set_option maxHeartbeats 4000000
/-! PLv: arguments that are lent at the call itself (later arguments may use them before). -/
namespace PL
open PySem PySem.Spec PyProof.Rows L2
def resv : List Sl → List Sl → Option (List Sl × List Sl)
  | [], ρ => some ([], ρ)
  | .pk i :: rs, ρ => match ρ[i]? with
    | some (.fz p) => (resv rs ρ).map fun y => (.fz p :: y.1, y.2)
    | some (.own xs) => (resv rs (ρ.set i .moved)).map fun y => (.br i (.own xs) :: y.1, y.2)
    | _ => none
  | r :: rs, ρ => (resv rs ρ).map fun y => (r :: y.1, y.2)
def aRes (fs : PFs) : PFs := fun ρ => (fs ρ).bind fun x => resv x.1 x.2
theorem resv_len : ∀ (rs ρ qs ρ' : List Sl), resv rs ρ = some (qs, ρ') → qs.length = rs.length ∧ ρ'.length = ρ.length
  | [], ρ, qs, ρ', h => by cases h; exact ⟨rfl, rfl⟩
  | r :: rs, ρ, qs, ρ', h => by
    have gen : ∀ (q : Sl) (τ : List Sl), τ.length = ρ.length → (resv rs τ).map (fun y => (q :: y.1, y.2)) = some (qs, ρ') → qs.length = (r :: rs).length ∧ ρ'.length = ρ.length := fun q τ hτ g => by
      rw [Option.map_eq_some_iff] at g
      obtain ⟨⟨ys, τ'⟩, h1, g⟩ := g
      cases g
      obtain ⟨l1, l2⟩ := resv_len rs τ _ _ h1
      exact ⟨by rw [List.length_cons, List.length_cons, l1], l2.trans hτ⟩
    cases r with
    | pk i =>
      unfold resv at h
      split at h
      · exact gen _ _ rfl h
      · exact gen _ _ (List.length_set) h
      · cases h
    | _ => exact gen _ _ rfl h
section
variable {R : RE} {e : En} {F H : Hp}
theorem Bag.resv {σ : L2.St} : ∀ {rs ρ qs ρ' : List Sl} {xs : List V} {T : Bg}, ρ.length = σ.length → PL.resv rs ρ = some (qs, ρ') → Paired (fun r x => PkOk r σ x) rs xs → Bag R e F H (ρ.zip σ ++ T ++ (rs.map tmpOf).zip (xs.map some)) →
    Bag R e F H (ρ'.zip σ ++ T ++ (qs.map tmpOf).zip (xs.map some)) ∧ Paired (fun r x => PkOk r σ x) qs xs
  | [], ρ, qs, ρ', [], T, _, h, _, hB => by cases h; exact ⟨hB, .nil⟩
  | r :: rs, ρ, qs, ρ', x :: xs, T, hl, h, .cons k ks, hB => by
    have e1 : ∀ (q : Sl) (us : List Sl), ((q :: us).map tmpOf).zip ((x :: xs).map some) = [(tmpOf q, some x)] ++ (us.map tmpOf).zip (xs.map some) := fun _ _ => rfl
    have plain : ∀ (q : Sl) (τ : List Sl), τ.length = σ.length → PkOk q σ x → (PL.resv rs τ).map (fun y => (q :: y.1, y.2)) = some (qs, ρ') → Bag R e F H (τ.zip σ ++ (T ++ [(tmpOf q, some x)]) ++ (rs.map tmpOf).zip (xs.map some)) →
        Bag R e F H (ρ'.zip σ ++ T ++ (qs.map tmpOf).zip ((x :: xs).map some)) ∧ Paired (fun r x => PkOk r σ x) qs (x :: xs) := fun q τ hτ hk g hB' => by
      rw [Option.map_eq_some_iff] at g
      obtain ⟨⟨ys, τ'⟩, h1, g⟩ := g
      cases g
      obtain ⟨B2, k2⟩ := Bag.resv hτ h1 ks hB'
      refine ⟨?_, .cons hk k2⟩
      rw [e1, ← List.append_assoc, List.append_assoc (τ'.zip σ)]
      exact B2
    have swap : ∀ (τ : List Sl) (s : Sl), Bag R e F H (τ.zip σ ++ (T ++ ((.un, some x) :: (rs.map tmpOf).zip (xs.map some))) ++ [(s, some x)]) → Bag R e F H (τ.zip σ ++ (T ++ [(s, some x)]) ++ (rs.map tmpOf).zip (xs.map some)) := fun τ s hB' => by
      have h1 : Bag R e F H (τ.zip σ ++ (T ++ (rs.map tmpOf).zip (xs.map some)) ++ [(s, some x)]) := hB'.sublist (((List.Sublist.refl _).append ((List.Sublist.refl _).append (List.sublist_cons_self _ _))).append (List.Sublist.refl _))
      refine h1.perm ?_
      rw [List.append_assoc, List.append_assoc (τ.zip σ), List.append_assoc T, List.append_assoc T]
      exact (List.Perm.refl _).append ((List.Perm.refl _).append List.perm_append_comm)
    have other : tmpOf r = tmpOf r → (∀ i, r ≠ .pk i) → PL.resv (r :: rs) ρ = (PL.resv rs ρ).map (fun y => (r :: y.1, y.2)) := fun _ hn => by
      cases r with
      | pk i => exact absurd rfl (hn i)
      | _ => rfl
    by_cases hp : ∃ i, r = .pk i
    · obtain ⟨i, rfl⟩ := hp
      have hx : σ[i]? = some (some x) := k i (.inl rfl)
      have hB1 : Bag R e F H (ρ.zip σ ++ (T ++ ((.un, some x) :: (rs.map tmpOf).zip (xs.map some)))) := by
        rw [← List.append_assoc]
        exact hB
      unfold PL.resv at h
      split at h
      · rename_i p g
        obtain ⟨o, h2, h3, y, ey, h4⟩ := slot_some hB1 hl g
        rw [hx] at h2
        cases h2
        cases ey
        exact plain (.fz p) ρ hl pk_fz h (swap ρ _ (hB1.push_fz h4))
      · rename_i zs g
        have h3 := lend hB1 hl g hx
        refine plain (.br i (.own zs)) (ρ.set i .moved) (by rw [List.length_set]; exact hl) (fun j z => ?_) h (swap _ _ h3)
        rcases z with z | ⟨_, z⟩ <;> cases z
        exact hx
      · cases h
    · have hn : ∀ i, r ≠ .pk i := fun i z => hp ⟨i, z⟩
      rw [other rfl hn] at h
      refine plain r ρ hl k h ?_
      rw [← List.append_assoc, List.append_assoc (ρ.zip σ ++ T)]
      exact hB
  | [], _, _, _, _ :: _, _, _, _, k, _ => by cases k
  | _ :: _, _, _, _, [], _, _, _, k, _ => by cases k
end
theorem av_res {X : Cx} {R : RE} {es : List Expr} {fs : PFs} (h : Av X R es fs) : Av X R es (aRes fs) := by
  have key : ∀ {ρ ρ' : List Sl} {qs : List Sl}, aRes fs ρ = some (qs, ρ') → ∃ rs ρ1, fs ρ = some (rs, ρ1) ∧ resv rs ρ1 = some (qs, ρ') := by
    intro ρ ρ' qs q
    unfold aRes at q
    rw [Option.bind_eq_some_iff] at q
    obtain ⟨⟨rs, ρ1⟩, h1, q⟩ := q
    exact ⟨rs, ρ1, h1, q⟩
  refine ⟨fun ρ r ρ' q => ?_, fun ρ r ρ' q => ?_, pa_mono h.pa fun σ H Q q => ?_⟩
  · obtain ⟨rs, ρ1, q1, q2⟩ := key q
    exact (resv_len _ _ _ _ q2).2.trans (h.len _ _ _ q1)
  · obtain ⟨rs, ρ1, q1, q2⟩ := key q
    exact (resv_len _ _ _ _ q2).1.trans (h.cnt _ _ _ q1)
  · obtain ⟨e, F, ρ, tm, qs, ρ', hl, hB, hf, k⟩ := q
    obtain ⟨rs, ρ1, q1, q2⟩ := key hf
    refine ⟨e, F, ρ, tm, rs, ρ1, hl, hB, q1, fun xs H1 F1 B1 k1 => ?_⟩
    obtain ⟨B2, k2⟩ := Bag.resv ((h.len _ _ _ q1).trans hl) q2 k1 B1
    exact k xs H1 F1 B2 k2
end PL
set_option Elab.async false
set_option linter.all false
set_option maxRecDepth 100000
set_option maxHeartbeats 4000000
/-! PLw: sum of a tuple of ints. -/
namespace PL
open PySem PySem.Spec PyProof.Rows L2
theorem preSum_getD : ∀ (ns : List Int) (n : Nat), n ≤ ns.length → preSum (fun i => ns.getD i 0) n = (ns.take n).sum
  | ns, 0, _ => by simp [preSum]
  | ns, n + 1, h => by
    have ih := preSum_getD ns n (by omega)
    have e : ns.take (n + 1) = ns.take n ++ [ns.getD n 0] := by
      rw [List.take_add_one, List.getD_eq_getElem?_getD, List.getElem?_eq_getElem (by omega)]; rfl
    rw [e, List.sum_append, ← ih]
    simp [preSum]
def rSumT (K : PySem.W.Frag) (vs : List V) (H : Hp) (Q : VK) : Prop := ∃ (a : Addr) (ns : List Int), vs = [V.ref a] ∧ SqT K H a (ns.map V.int) ∧ Q (.int ns.sum) H
section
variable {X : Cx}
theorem cr_sumT (hc : X.calm = true) : CallR X (.builtin "sum") (rSumT X.K) := by
  intro pins s σ H xs us Q I rv ⟨a, ns, e, hq, k⟩
  subst e
  match us, rv with
  | [_], .cons r .nil =>
    cases r
    refine call_sum_walkG (tup_walk I hq (I.ok.hd hc) fun its ri w _ hfp hst hI => ?_)
    refine ⟨_, _, _, _, _, _, fun i => ns.getD i 0, rfl, w, hst, hfp, fun i v g => vals_ints_get ri g, fun h' tk t' hk => ?_⟩
    rw [preSum_getD ns ns.length (Nat.le_refl _), List.take_length]
    exact ⟨.int _, H, hI h' tk hk, ⟨_, rfl⟩, k⟩
end
def clSum2 : List PV → Option Vl := fun ps => match clSum ps with
  | some r => some r
  | none => match ps with
    | [.tup xs] => (intsOf xs).map fun ns => .fz (.int ns.sum)
    | _ => none
theorem cok_sum2 {R : RE} : CallOk R clSum2 (fun xs H Q => rSum R.K xs H Q ∨ rSumT R.K xs H Q) := by
  refine cok_sum.or (op' := fun ps => match ps with
    | [.tup xs] => (intsOf xs).map fun ns => .fz (.int ns.sum)
    | _ => none) ?_
  intro e F H B ps xs r Q hB hp ho k
  dsimp only at ho
  split at ho
  · rename_i zs
    rw [Option.map_eq_some_iff] at ho
    obtain ⟨ns, h1, rfl⟩ := ho
    obtain ⟨x, rfl, q⟩ := hp.one
    obtain ⟨a, vs, rfl, h2, r1⟩ := q.tup hB.sub
    rw [intsOf_eq h1] at r1
    rw [r1.ints] at h2
    exact ⟨a, ns, rfl, h2, k _ H F (hB.push_fz (.int _))⟩
  · cases ho
end PL
set_option Elab.async false
set_option linter.all false
set_option maxRecDepth 100000
set_option maxHeartbeats 4000000
/-! PLx: steps of the raw functions, one construct each. -/
namespace PL
open PySem
theorem stBin {op : PV → PV → Option Vl} {f g : PF} {ρ ρ1 ρ2 : List Sl} {r s : Sl} {p q : PV} {v : Vl} (h1 : f ρ = some (r, ρ1)) (h2 : g ρ1 = some (s, ρ2)) (c1 : cont ρ2 r = some p) (c2 : cont ρ2 s = some q) (h : op p q = some v) : eBin op f g ρ = some (v.sl, ρ2) := by
  unfold eBin
  rw [h1, Option.bind_some, h2, Option.bind_some, c1, Option.bind_some, c2, Option.bind_some, h]; rfl
theorem stNary {op : List PV → Option Vl} {fs : PFs} {ρ ρ1 : List Sl} {rs : List Sl} {ps : List PV} {v : Vl} (h1 : fs ρ = some (rs, ρ1)) (h2 : conts ρ1 rs = some ps) (h : op ps = some v) : eNary op fs ρ = some (v.sl, ρ1) := by
  unfold eNary
  rw [h1, Option.bind_some, h2, Option.bind_some, h]; rfl
theorem stCons {f : PF} {fs : PFs} {ρ ρ1 ρ2 : List Sl} {r : Sl} {rs : List Sl} (h1 : f ρ = some (r, ρ1)) (h2 : fs ρ1 = some (rs, ρ2)) : aCons f fs ρ = some (r :: rs, ρ2) := by
  unfold aCons
  rw [h1, Option.bind_some, h2]; rfl
theorem stOne {f : PF} {ρ ρ1 : List Sl} {r : Sl} (h1 : f ρ = some (r, ρ1)) : aCons f aNil ρ = some ([r], ρ1) := stCons h1 rfl
theorem stCall {f : FP} {fs : PFs} {ρ ρ1 : List Sl} {v : Vl} {rs ss : List Sl} (h1 : fs ρ = some (rs, ρ1)) (h2 : f (rs.map tmpOf) = some (v, ss)) : eCall f fs ρ = some (v.sl, putB rs ss ρ1) := by
  unfold eCall
  rw [h1, Option.bind_some, h2]; rfl
theorem stSet {fa : PF} {ρ ρ1 : List Sl} {r : Sl} {v : Vl} {i : Nat} (h : fa ρ = some (r, ρ1)) (hv : toVl r = some v) : sSet i fa ρ = some (.nx, ρ1.set i v.sl) := by
  unfold sSet
  rw [h, Option.bind_some, hv]; rfl
theorem stRet {fa : PF} {ρ ρ1 : List Sl} {r : Sl} {v : Vl} (h : fa ρ = some (r, ρ1)) (hv : toVl r = some v) : sRet fa ρ = some (.rt v, ρ1) := by
  unfold sRet
  rw [h, Option.bind_some, hv]; rfl
theorem stOf {fa : PF} {ρ ρ1 : List Sl} {b : Bool} (h : fa ρ = some (.fz (.bl b), ρ1)) : tOf fa ρ = some (b, ρ1) := by
  unfold tOf
  rw [h]; rfl
theorem stIf {t : PT'} {f g : PSF} {ρ ρ1 : List Sl} {b : Bool} (h : t ρ = some (b, ρ1)) : sIf t f g ρ = if b = true then f ρ1 else g ρ1 := by
  unfold sIf
  rw [h]; rfl
theorem stNx {f g : PSF} {ρ ρ1 : List Sl} (h : f ρ = some (.nx, ρ1)) : sSeq f g ρ = g ρ1 := by
  unfold sSeq
  rw [h, Option.bind_some]
theorem stRt {f g : PSF} {ρ ρ1 : List Sl} {v : Vl} (h : f ρ = some (.rt v, ρ1)) : sSeq f g ρ = some (.rt v, ρ1) := by
  unfold sSeq
  rw [h, Option.bind_some]
theorem stExpr {fa : PF} {ρ ρ1 : List Sl} {r : Sl} (h : fa ρ = some (r, ρ1)) : sExpr fa ρ = some (.nx, ρ1) := by
  unfold sExpr
  rw [h]; rfl
theorem stFor {w : PIF} {g : PGF} {body : PSF} {ρ ρ1 ρ2 : List Sl} {items : List PV} {rs : List Sl} {fl : Fl} (h : w ρ = some (items, rs, ρ1)) (h2 : forP g body items ρ1 = some (fl, ρ2)) : sFor w g body ρ = some (fl, ρ2) := by
  unfold sFor
  rw [h, Option.bind_some]
  exact h2
theorem stRange1 {f : PF} {ρ ρ1 : List Sl} {n : Nat} {i : Int} (h : f ρ = some (.fz (.int i), ρ1)) (hi : i = (n : Int)) (hn : n ≤ 100000) : iRange1 f ρ = some (rangeP 0 n, [], ρ1) := by
  unfold iRange1
  rw [h, Option.bind_some, hi]
  have hc : -(lineN : Int) ≤ (n : Int) ∧ (n : Int) ≤ (lineN : Int) := by
    unfold lineN
    exact ⟨by omega, by omega⟩
  simp only [hc, and_self, if_true, Int.toNat_natCast]
theorem stRange2 {f g : PF} {ρ ρ1 ρ2 : List Sl} {i j : Int} (h1 : f ρ = some (.fz (.int i), ρ1)) (h2 : g ρ1 = some (.fz (.int j), ρ2)) (hi : -100000 ≤ i ∧ i ≤ 100000) (hj : -100000 ≤ j ∧ j ≤ 100000) : iRange2 f g ρ = some (rangeP i (j - i).toNat, [], ρ2) := by
  unfold iRange2
  rw [h1, Option.bind_some]
  simp only [h2, Option.bind_some]
  have hc : -(2 ^ 62) ≤ i ∧ j < 2 ^ 62 ∧ i < 2 ^ 62 ∧ -(2 ^ 62) ≤ j ∧ j - i ≤ (lineN : Int) := by
    unfold lineN
    refine ⟨?_, ?_, ?_, ?_, ?_⟩ <;> omega
  rw [if_pos hc]
theorem stAnd {f g : PF} {ρ ρ1 ρ2 : List Sl} {r : Sl} {b : Bool} (h1 : f ρ = some (.fz (.bl b), ρ1)) (h2 : b = true → g ρ1 = some (r, ρ2)) (h3 : b = false → r = .fz (.bl false) ∧ ρ2 = ρ1) : eAndF f g ρ = some (r, ρ2) := by
  unfold eAndF
  rw [stOf h1]
  cases b with
  | true => exact h2 rfl
  | false => obtain ⟨rfl, rfl⟩ := h3 rfl; rfl
theorem stNot {t : PT'} {ρ ρ1 : List Sl} {b : Bool} (h : t ρ = some (b, ρ1)) : tNotF t ρ = some (!b, ρ1) := by
  unfold tNotF
  rw [h]; rfl
theorem stLstAdd {f g : PF} {ρ ρ1 ρ2 : List Sl} {r s : Sl} {xs ys : List PV} (h1 : f ρ = some (r, ρ1)) (h2 : g ρ1 = some (s, ρ2)) (c1 : cont ρ2 r = some (.lst xs)) (c2 : cont ρ2 s = some (.lst ys)) (hl : xs.length + ys.length ≤ 100000) : eBin opAdd f g ρ = some (.own (xs ++ ys), ρ2) := by
  have : xs.length + ys.length ≤ lineN := by unfold lineN; omega
  exact stBin (v := .own (xs ++ ys)) h1 h2 c1 c2 (by unfold opAdd; exact if_pos this)
theorem stPk {i : Nat} {ρ : List Sl} {p : PV} (h : ρ[i]? = some (.fz p)) : ePk i ρ = some (.fz p, ρ) := by
  unfold ePk
  rw [h]
theorem stPkO {i : Nat} {ρ : List Sl} {xs : List PV} (h : ρ[i]? = some (.own xs)) : ePk i ρ = some (.pk i, ρ) := by
  unfold ePk
  rw [h]
theorem stVar {i : Nat} {ρ : List Sl} {p : PV} (h : ρ[i]? = some (.fz p)) : eVar i ρ = some (.fz p, ρ) := by
  unfold eVar
  rw [h]
theorem stVarO {i : Nat} {ρ : List Sl} {xs : List PV} (h : ρ[i]? = some (.own xs)) : eVar i ρ = some (.fz (.lst xs), ρ.set i (.fz (.lst xs))) := by
  unfold eVar
  rw [h]
theorem stBor {i : Nat} {ρ : List Sl} {xs : List PV} (h : ρ[i]? = some (.own xs)) : eBor i ρ = some (.br i (.own xs), ρ.set i .moved) := by
  unfold eBor
  rw [h]
theorem stMv {i : Nat} {ρ : List Sl} {xs : List PV} (h : ρ[i]? = some (.own xs)) : eMv i ρ = some (.own xs, ρ.set i .moved) := by
  unfold eMv
  rw [h]
theorem stC {p : PV} {ρ : List Sl} : eC p ρ = some (.fz p, ρ) := rfl
theorem stNil {ρ : List Sl} : aNil ρ = some ([], ρ) := rfl
theorem stNeg {f : PF} {ρ ρ1 : List Sl} {i : Int} (h : f ρ = some (.fz (.int i), ρ1)) : eNeg f ρ = some (.fz (.int (-i)), ρ1) := by
  unfold eNeg
  rw [h]; rfl
theorem stNotE {f : PF} {ρ ρ1 : List Sl} {b : Bool} (h : f ρ = some (.fz (.bl b), ρ1)) : eNotF f ρ = some (.fz (.bl (!b)), ρ1) := by
  unfold eNotF
  rw [stOf h]; rfl
theorem stAndT {f g : PF} {ρ ρ1 : List Sl} {b : Bool} {z : Option (Sl × List Sl)} (h1 : f ρ = some (.fz (.bl b), ρ1)) (hb : b = true) (h2 : g ρ1 = z) : eAndF f g ρ = z := by
  unfold eAndF
  rw [stOf h1, hb]; exact h2
theorem stAndN {f g : PF} {ρ ρ1 : List Sl} {b : Bool} (h1 : f ρ = some (.fz (.bl b), ρ1)) (hb : b = false) : eAndF f g ρ = some (.fz (.bl false), ρ1) := by
  unfold eAndF
  rw [stOf h1, hb]; rfl
theorem stOrN {f g : PF} {ρ ρ1 : List Sl} {b : Bool} {z : Option (Sl × List Sl)} (h1 : f ρ = some (.fz (.bl b), ρ1)) (hb : b = false) (h2 : g ρ1 = z) : eOrF f g ρ = z := by
  unfold eOrF
  rw [stOf h1, hb]; exact h2
theorem stOrT {f g : PF} {ρ ρ1 : List Sl} {b : Bool} (h1 : f ρ = some (.fz (.bl b), ρ1)) (hb : b = true) : eOrF f g ρ = some (.fz (.bl true), ρ1) := by
  unfold eOrF
  rw [stOf h1, hb]; rfl
theorem stTAndT {f g : PT'} {ρ ρ1 : List Sl} {b : Bool} {z : Option (Bool × List Sl)} (h1 : f ρ = some (b, ρ1)) (hb : b = true) (h2 : g ρ1 = z) : tAndF f g ρ = z := by
  unfold tAndF
  rw [h1, hb]; exact h2
theorem stTAndN {f g : PT'} {ρ ρ1 : List Sl} {b : Bool} (h1 : f ρ = some (b, ρ1)) (hb : b = false) : tAndF f g ρ = some (false, ρ1) := by
  unfold tAndF
  rw [h1, hb]; rfl
theorem stTOrN {f g : PT'} {ρ ρ1 : List Sl} {b : Bool} {z : Option (Bool × List Sl)} (h1 : f ρ = some (b, ρ1)) (hb : b = false) (h2 : g ρ1 = z) : tOrF f g ρ = z := by
  unfold tOrF
  rw [h1, hb]; exact h2
theorem stTOrT {f g : PT'} {ρ ρ1 : List Sl} {b : Bool} (h1 : f ρ = some (b, ρ1)) (hb : b = true) : tOrF f g ρ = some (true, ρ1) := by
  unfold tOrF
  rw [h1, hb]; rfl
theorem stIfT {t : PT'} {f g : PSF} {ρ ρ1 : List Sl} {b : Bool} {z : Option (Fl × List Sl)} (h : t ρ = some (b, ρ1)) (hb : b = true) (h2 : f ρ1 = z) : sIf t f g ρ = z := by
  unfold sIf
  rw [h, hb]; exact h2
theorem stIfN {t : PT'} {f g : PSF} {ρ ρ1 : List Sl} {b : Bool} {z : Option (Fl × List Sl)} (h : t ρ = some (b, ρ1)) (hb : b = false) (h2 : g ρ1 = z) : sIf t f g ρ = z := by
  unfold sIf
  rw [h, hb]; exact h2
theorem stIfET {t : PT'} {f g : PF} {ρ ρ1 : List Sl} {b : Bool} {z : Option (Sl × List Sl)} (h : t ρ = some (b, ρ1)) (hb : b = true) (h2 : f ρ1 = z) : eIf t f g ρ = z := by
  unfold eIf
  rw [h, hb]; exact h2
theorem stIfEN {t : PT'} {f g : PF} {ρ ρ1 : List Sl} {b : Bool} {z : Option (Sl × List Sl)} (h : t ρ = some (b, ρ1)) (hb : b = false) (h2 : g ρ1 = z) : eIf t f g ρ = z := by
  unfold eIf
  rw [h, hb]; exact h2
theorem stSeqN {f g : PSF} {ρ ρ1 : List Sl} {z : Option (Fl × List Sl)} (h : f ρ = some (.nx, ρ1)) (h2 : g ρ1 = z) : sSeq f g ρ = z := (stNx h).trans h2
theorem stNilS {ρ : List Sl} : sNil ρ = some (.nx, ρ) := rfl
theorem stoS {f : PF} {ρ ρ1 : List Sl} {i : Int} (h : f ρ = some (.fz (.int i), ρ1)) : oSome f ρ = some (some i, ρ1) := by
  unfold oSome
  rw [h]; rfl
theorem stoN {ρ : List Sl} : oNone ρ = some (none, ρ) := rfl
theorem stSl {fa : PF} {fl fh : PFo} {ρ ρ1 ρ2 ρ3 : List Sl} {r : Sl} {l h : Option Int} {p : PV} {v : Vl} (h1 : fa ρ = some (r, ρ1)) (h2 : fl ρ1 = some (l, ρ2)) (h3 : fh ρ2 = some (h, ρ3)) (c : cont ρ3 r = some p) (ho : opSl p l h = some v) : eSl fa fl fh ρ = some (v.sl, ρ3) := by
  unfold eSl
  rw [h1, Option.bind_some, h2, Option.bind_some, h3, Option.bind_some, c, Option.bind_some, ho]; rfl
theorem stTup {fs : PFs} {ρ ρ1 : List Sl} {rs : List Sl} {ps : List PV} (h1 : fs ρ = some (rs, ρ1)) (h2 : valsOf rs = some ps) (hl : ps.length ≤ lineN) : eTup fs ρ = some (.fz (.tup ps), ρ1) := by
  unfold eTup
  rw [h1, Option.bind_some, h2, Option.bind_some, if_pos hl]
theorem stLst {fs : PFs} {ρ ρ1 : List Sl} {rs : List Sl} {ps : List PV} (h1 : fs ρ = some (rs, ρ1)) (h2 : valsOf rs = some ps) (hl : ps.length ≤ lineN) : eLst fs ρ = some (.own ps, ρ1) := by
  unfold eLst
  rw [h1, Option.bind_some, h2, Option.bind_some, if_pos hl]
theorem stFld {t : Nat → Option Nat} {fa : PF} {ρ ρ1 : List Sl} {c j : Nat} {xs : List PV} {p : PV} (h : fa ρ = some (.fz (.ins c xs), ρ1)) (h2 : t c = some j) (h3 : xs[j]? = some p) : eFld t fa ρ = some (.fz p, ρ1) := by
  unfold eFld
  rw [h, Option.bind_some]
  show (t c).bind _ = _
  rw [h2, Option.bind_some, h3]; rfl
theorem stAppend {i : Nat} {f : PF} {ρ ρ1 : List Sl} {r : Sl} {p : PV} {xs ys : List PV} (h0 : ρ[i]? = some (.own ys)) (h1 : f ρ = some (r, ρ1)) (h2 : valOf r = some p) (h3 : ρ1[i]? = some (.own xs)) (hl : xs.length < lineN) : eAppend i f ρ = some (.fz .non, ρ1.set i (.own (xs ++ [p]))) := by
  unfold eAppend
  rw [h0]
  show (f ρ).bind _ = _
  rw [h1, Option.bind_some, h2, Option.bind_some]
  show (match ρ1[i]? with | some (.own xs) => _ | _ => _) = _
  rw [h3]
  exact if_pos hl
theorem stFn {N : Nat} {rs : List Bool} {body : PSF} {as ρ1 : List Sl} {v : Vl} (h : body (prepP rs as ++ List.replicate (N - rs.length) .un) = some (.rt v, ρ1)) : fnF N rs body as = some (v, finP rs (prepP rs as) ρ1) := by
  unfold fnF
  rw [h]; rfl
theorem stFnN {N : Nat} {rs : List Bool} {body : PSF} {as ρ1 : List Sl} (h : body (prepP rs as ++ List.replicate (N - rs.length) .un) = some (.nx, ρ1)) : fnF N rs body as = some (.fz .non, finP rs (prepP rs as) ρ1) := by
  unfold fnF
  rw [h]; rfl
theorem stChainT {op op' : PV → PV → Option Vl} {fa fb fc : PF} {ρ ρ1 ρ2 ρ3 : List Sl} {r s t : Sl} {p q q' u : PV} {b : Bool} {v : Vl} (h1 : fa ρ = some (r, ρ1)) (h2 : fb ρ1 = some (s, ρ2)) (c1 : cont ρ2 r = some p) (c2 : cont ρ2 s = some q) (ho : op p q = some (.fz (.bl b))) (hb : b = true) (h3 : fc ρ2 = some (t, ρ3)) (c3 : cont ρ3 s = some q') (c4 : cont ρ3 t = some u) (ho2 : op' q' u = some v) : eChain op op' fa fb fc ρ = some (v.sl, ρ3) := by
  subst hb
  unfold eChain
  rw [h1, Option.bind_some, h2, Option.bind_some, c1, Option.bind_some, c2, Option.bind_some, ho]
  show (fc ρ2).bind _ = _
  rw [h3, Option.bind_some, c3, Option.bind_some, c4, Option.bind_some, ho2]; rfl
theorem stChainN {op op' : PV → PV → Option Vl} {fa fb fc : PF} {ρ ρ1 ρ2 : List Sl} {r s : Sl} {p q : PV} {b : Bool} (h1 : fa ρ = some (r, ρ1)) (h2 : fb ρ1 = some (s, ρ2)) (c1 : cont ρ2 r = some p) (c2 : cont ρ2 s = some q) (ho : op p q = some (.fz (.bl b))) (hb : b = false) : eChain op op' fa fb fc ρ = some (.fz (.bl false), ρ2) := by
  subst hb
  unfold eChain
  rw [h1, Option.bind_some, h2, Option.bind_some, c1, Option.bind_some, c2, Option.bind_some, ho]
theorem stPar {i j : Nat} {fs : PFs} {ρ ρ1 : List Sl} {r s : Sl} {v w : Vl} (h : fs ρ = some ([r, s], ρ1)) (h2 : toVl r = some v) (h3 : toVl s = some w) : sPar i j fs ρ = some (.nx, (ρ1.set i v.sl).set j w.sl) := by
  unfold sPar
  rw [h, Option.bind_some]
  show (toVl r).bind _ = _
  rw [h2, Option.bind_some, h3]; rfl
theorem stAsg {f : PF} {g : PGF} {ρ ρ1 ρ2 : List Sl} {r : Sl} {p : PV} (h : f ρ = some (r, ρ1)) (h2 : valOf r = some p) (h3 : g p ρ1 = some ρ2) : sAsg f g ρ = some (.nx, ρ2) := by
  unfold sAsg
  rw [h, Option.bind_some, h2, Option.bind_some, h3]; rfl
theorem stISeq {f : PF} {ρ ρ1 : List Sl} {r : Sl} {items : List PV} (h : f ρ = some (r, ρ1)) (h2 : seqOf (tmpOf r) = some items) : iSeq f ρ = some (items, [r], ρ1) := by
  unfold iSeq
  rw [h, Option.bind_some, h2]; rfl
theorem seq_fz_lst {xs : List PV} : seqOf (tmpOf (.fz (.lst xs))) = some xs := rfl


theorem opEq_ii {i j : Int} : opEq (.int i) (.int j) = some (.fz (.bl (decide (i = j)))) := by
  unfold opEq
  rw [datN_i, datN_i, if_pos ⟨rfl, rfl⟩, eqP_ii]
  rfl
theorem opNe_ii {i j : Int} : opNe (.int i) (.int j) = some (.fz (.bl (!decide (i = j)))) := by
  unfold opNe
  rw [datN_i, datN_i, if_pos ⟨rfl, rfl⟩, eqP_ii]
  rfl
theorem opIx_l {xs : List PV} {i : Int} {p : PV} (h : L2.atI xs i = some p) : opIx (.lst xs) (.int i) = some (.fz p) := by
  show Option.map _ _ = _
  rw [h]; rfl
theorem opIx_t {xs : List PV} {i : Int} {p : PV} (h : L2.atI xs i = some p) : opIx (.tup xs) (.int i) = some (.fz p) := by
  show Option.map _ _ = _
  rw [h]; rfl
theorem opMod_i {i j : Int} (h : 0 < j) : opMod (.int i) (.int j) = some (.fz (.int (i % j))) := by
  show (if _ then _ else _) = _
  exact if_pos h
theorem clSum2_l {xs : List PV} {ns : List Int} (h : intsOf xs = some ns) : clSum2 [.lst xs] = some (.fz (.int ns.sum)) := by
  simp only [clSum2, clSum, h, Option.map_some]
theorem clSum2_t {xs : List PV} {ns : List Int} (h : intsOf xs = some ns) : clSum2 [.tup xs] = some (.fz (.int ns.sum)) := by
  simp only [clSum2, clSum, h, Option.map_some]
theorem clMax2_l {xs : List PV} {ns : List Int} (h : intsOf xs = some ns) (hn : ns ≠ []) : clMax2 [.lst xs] = some (.fz (.int (maxL ns))) := by
  have : ns.isEmpty = false := by cases ns with | nil => exact absurd rfl hn | cons _ _ => rfl
  unfold clMax2 clMax
  simp only [h, Option.bind_some, this]
  rfl
theorem clMin2_l {xs : List PV} {ns : List Int} (h : intsOf xs = some ns) (hn : ns ≠ []) : clMin2 [.lst xs] = some (.fz (.int (minL ns))) := by
  have : ns.isEmpty = false := by cases ns with | nil => exact absurd rfl hn | cons _ _ => rfl
  unfold clMin2 clMin
  simp only [h, Option.bind_some, this]
  rfl
theorem clAll_l {xs : List PV} {bs : List Bool} (h : blsOf xs = some bs) : clAll [.lst xs] = some (.fz (.bl (bs.all id))) := by
  simp only [clAll, h, Option.map_some]
theorem clAny_l {xs : List PV} {bs : List Bool} (h : blsOf xs = some bs) : clAny [.lst xs] = some (.fz (.bl (bs.any id))) := by
  simp only [clAny, h, Option.map_some]
theorem clLen_l {xs : List PV} {n : Nat} (h : xs.length = n) : clLen [.lst xs] = some (.fz (.int n)) := by
  rw [← h]; rfl
theorem clLen_t {xs : List PV} {n : Nat} (h : xs.length = n) : clLen [.tup xs] = some (.fz (.int n)) := by
  rw [← h]; rfl
def flOut : Fl → Bool
  | .nx => false
  | _ => true
theorem stSeqO {f g : PSF} {ρ ρ1 : List Sl} {fl : Fl} (h : f ρ = some (fl, ρ1)) (hf : flOut fl = true) : sSeq f g ρ = some (fl, ρ1) := by
  unfold sSeq
  rw [h, Option.bind_some]
  cases fl <;> first | rfl | exact absurd hf (by simp [flOut])
theorem stZip2 {fs : PFs} {ρ ρ1 : List Sl} {r s : Sl} {xs ys : List PV} (h : fs ρ = some ([r, s], ρ1)) (h1 : seqOf (tmpOf r) = some xs) (h2 : seqOf (tmpOf s) = some ys) : iZip2 fs ρ = some (zipP xs ys, [r, s], ρ1) := by
  unfold iZip2
  rw [h, Option.bind_some]
  show (seqOf (tmpOf r)).bind _ = _
  rw [h1, Option.bind_some, h2]; rfl
theorem stZip3 {fs : PFs} {ρ ρ1 : List Sl} {r s t : Sl} {xs ys zs : List PV} (h : fs ρ = some ([r, s, t], ρ1)) (h1 : seqOf (tmpOf r) = some xs) (h2 : seqOf (tmpOf s) = some ys) (h3 : seqOf (tmpOf t) = some zs) : iZip3 fs ρ = some (zip3P xs ys zs, [r, s, t], ρ1) := by
  unfold iZip3
  rw [h, Option.bind_some]
  show (seqOf (tmpOf r)).bind _ = _
  rw [h1, Option.bind_some, h2, Option.bind_some, h3]; rfl
theorem stEnum {fs : PFs} {ρ ρ1 : List Sl} {r : Sl} {xs : List PV} (h : fs ρ = some ([r], ρ1)) (h1 : seqOf (tmpOf r) = some xs) : iEnum fs ρ = some (enumP 0 xs, [r], ρ1) := by
  unfold iEnum
  rw [h, Option.bind_some]
  show (seqOf (tmpOf r)).map _ = _
  rw [h1]; rfl
theorem stMeth {c : Nat} {f : FP} {fa : PF} {fs : PFs} {ρ ρ1 ρ2 : List Sl} {zs : List PV} {rs ss : List Sl} {s0 : Sl} {v : Vl} (h1 : fa ρ = some (.fz (.ins c zs), ρ1)) (h2 : fs ρ1 = some (rs, ρ2)) (h3 : f (.fz (.ins c zs) :: rs.map tmpOf) = some (v, s0 :: ss)) : eMeth c f fa fs ρ = some (v.sl, putB rs ss ρ2) := by
  unfold eMeth
  rw [h1, Option.bind_some]
  show (if c = c then _ else _) = _
  rw [if_pos rfl, h2, Option.bind_some, h3]; rfl
theorem stMake {c n : Nat} {f : FP} {fs : PFs} {ρ ρ1 : List Sl} {rs ss : List Sl} {zs : List PV} (h1 : fs ρ = some (rs, ρ1)) (h2 : f (.obj c [] :: rs.map tmpOf) = some (.fz .non, .obj c zs :: ss)) (h3 : zs.length = n) : eMake c n f fs ρ = some (.fz (.ins c zs), putB rs ss ρ1) := by
  unfold eMake
  rw [h1, Option.bind_some, h2, Option.bind_some]
  exact if_pos ⟨rfl, h3⟩
theorem stRetN {ρ : List Sl} : sRetN ρ = some (.rt (.fz .non), ρ) := rfl
theorem stChainT' {op op' : PV → PV → Option Vl} {fa fb fc : PF} {ρ ρ1 ρ2 ρ3 : List Sl} {r s t : Sl} {p q q' u : PV} {v : Vl} (h1 : fa ρ = some (r, ρ1)) (h2 : fb ρ1 = some (s, ρ2)) (c1 : cont ρ2 r = some p) (c2 : cont ρ2 s = some q) (ho : op p q = some (.fz (.bl true))) (h3 : fc ρ2 = some (t, ρ3)) (c3 : cont ρ3 s = some q') (c4 : cont ρ3 t = some u) (ho2 : op' q' u = some v) : eChain op op' fa fb fc ρ = some (v.sl, ρ3) :=
  stChainT h1 h2 c1 c2 ho rfl h3 c3 c4 ho2
theorem bl_eq {b c : Bool} {x : Option Vl} (h : x = some (.fz (.bl b))) (e : b = c) : x = some (.fz (.bl c)) := e ▸ h
theorem stSetIx {i : Nat} {fa fi : PF} {ρ ρ1 ρ2 : List Sl} {r : Sl} {p : PV} {ys xs : List PV} {j : Int} {m : Nat} (h1 : fa ρ = some (r, ρ1)) (h2 : valOf r = some p) (h3 : ρ1[i]? = some (.own ys)) (h4 : fi ρ1 = some (.fz (.int j), ρ2)) (h5 : ρ2[i]? = some (.own xs)) (h6 : L2.ixN xs.length j = some m) : sSetIx i fa fi ρ = some (.nx, ρ2.set i (.own (xs.set m p))) := by
  unfold sSetIx
  rw [h1, Option.bind_some, h2, Option.bind_some]
  show (match ρ1[i]? with | some (.own _) => _ | _ => _) = _
  rw [h3]
  show (fi ρ1).bind _ = _
  rw [h4, Option.bind_some]
  show (match Sl.fz (.int j), ρ2[i]? with | .fz (.int j), some (.own xs) => _ | _, _ => _) = _
  rw [h5]
  show (L2.ixN xs.length j).map _ = _
  rw [h6]; rfl

theorem not_t {b : Bool} (h : b = false) : (!b) = true := by rw [h]; rfl
theorem not_f {b : Bool} (h : b = true) : (!b) = false := by rw [h]; rfl
theorem stIndex {fa fb : PF} {ρ ρ1 ρ2 : List Sl} {r1 r2 : Sl} {xs ys : List PV} {q : PV} {j : Nat} (h1 : fa ρ = some (r1, ρ1)) (c1 : cont ρ1 r1 = some (.lst ys)) (h2 : fb ρ1 = some (r2, ρ2)) (c2 : cont ρ2 r1 = some (.lst xs)) (c3 : cont ρ2 r2 = some q) (d1 : datN 60 (.lst xs) = true) (d2 : datN 60 q = true) (hi : idxP q xs = some j) : eIndex fa fb ρ = some (.fz (.int j), ρ2) := by
  unfold eIndex
  simp only [h1, Option.bind_some, c1, h2, c2, c3, d1, d2, and_self, if_true, hi, Option.map_some]
theorem opAdd_l {xs ys : List PV} (h : xs.length + ys.length ≤ 100000) : opAdd (.lst xs) (.lst ys) = some (.own (xs ++ ys)) := by
  have : xs.length + ys.length ≤ lineN := by unfold lineN; omega
  exact if_pos this
theorem opAdd_t {xs ys : List PV} (h : xs.length + ys.length ≤ 100000) : opAdd (.tup xs) (.tup ys) = some (.fz (.tup (xs ++ ys))) := by
  have : xs.length + ys.length ≤ lineN := by unfold lineN; omega
  exact if_pos this
theorem stListRg {w : PIF} {ρ ρ1 : List Sl} {items : List PV} (h : w ρ = some (items, [], ρ1)) : eListRg w ρ = some (.own items, ρ1) := by
  unfold eListRg
  rw [h]; rfl
theorem rangeP_length {a : Int} {n : Nat} : (rangeP a n).length = n := by unfold rangeP; simp
end PL
set_option Elab.async false
set_option linter.all false
set_option maxRecDepth 100000
set_option maxHeartbeats 4000000
/-! PLz: x, y = a, b where x or y is captured (the pair is laid and parted). -/
namespace PL
open PySem PySem.Spec PyProof.Rows L2
section
variable {X : Cx} {R : RE} {pr : List Nat} {a b : PySem.Expr} {pos : Pos}
theorem sv_parC {i j : Nat} {x y : Str} {fs : PFs} {px py pt : Pos} {kt k2 pt2} (hc : X.calm = true) (hN : X.N.Nodup) (hi : X.N[i]? = some x) (hj : X.N[j]? = some y)
    (hx : Loc X.env.scope x) (hy : Loc X.env.scope y) (hp : i ∉ pr) (hp' : j ∉ pr) (h : Av X R [a, b] fs)
    (fx : X.fn x = true ∨ X.env.scope.names.lookup x = some .local := by first | exact .inl rfl | exact .inr rfl | assumption)
    (fy : X.fn y = true ∨ X.env.scope.names.lookup y = some .local := by first | exact .inl rfl | exact .inr rfl | assumption)
    (hw : swappedStores [.Tuple [.Name x px, .Name y py] kt pt] (.Tuple [a, b] k2 pt2) X.env = pure none := by rfl)
    (hs : swapsWithSole [.Tuple [.Name x px, .Name y py] kt pt] (.Tuple [a, b] k2 pt2) pos.line X.env = pure false := by rfl)
    (h1 : (assignEach [.Tuple [.Name x px, .Name y py] kt pt] X.env).map (·.2) = [assign (.Tuple [.Name x px, .Name y py] kt pt) X.env] := by rfl)
    (hn : (assignEach [.Name x px, .Name y py] X.env).length = 2 := by rfl) (hst : (assignEach [.Name x px, .Name y py] X.env).findIdx? (·.1) = none := by rfl)
    (e1 : (assignEach [.Name x px, .Name y py] X.env).map (·.2) = assign (.Name x px) X.env :: (assignEach [.Name y py] X.env).map (·.2) := by rfl)
    (e2 : (assignEach [.Name y py] X.env).map (·.2) = assign (.Name y py) X.env :: (assignEach [] X.env).map (·.2) := by rfl) :
    Sv X R pr (.Assign [.Tuple [.Name x px, .Name y py] kt pt] (.Tuple [a, b] k2 pt2) pos) (sPar i j fs) := by
  refine ⟨fun ρ r ρ' q => ?_, ps_mono (ps_asg (pe_tup h.pa) (pg_tup hc (pgs_cons (pg_name hN hi hx fx) (pgs_cons (pg_name hN hj hy fy) pgs_nil e2) e1) hn hst) hs hw h1) fun D σ H q => ?_⟩
  · obtain ⟨v, w, ρ1, q1, _, rfl⟩ := sPar_some q
    rw [List.length_set, List.length_set]; exact h.len _ _ _ q1
  · obtain ⟨e, F, ρ, tm, fl, ρ', hl, hB, hf, k⟩ := q
    obtain ⟨v, w, ρ1, q1, rfl, rfl⟩ := sPar_some hf
    refine ⟨e, F, ρ, tm, _, ρ1, hl, hB, q1, fun xs H' F' B' k1 => ?_⟩
    have l1 := h.len _ _ _ q1
    have lx := Paired.len k1
    match xs, lx with
    | [x1, x2], _ =>
      refine ⟨by rw [← lineN_eq]; show 2 ≤ lineN; decide, fun p n => ?_⟩
      refine ⟨p, [x1, x2], rfl, .inl (.inl upd_same), rfl, x1, [x2], rfl, x2, [], rfl, rfl, ?_⟩
      have e1 : ([v.sl, w.sl].map tmpOf).zip ([x1, x2].map some) = [(v.sl, some x1), (w.sl, some x2)] := by simp [tmp_sl]
      rw [e1] at B'
      have B2 := Bag.slot (i := i) (B'.lay (o := .tup [x1, x2]) n) (by omega)
      have B3 := Bag.slot (i := j) B2 (by rw [List.length_set, List.length_set]; omega)
      rw [List.append_nil] at B3
      exact k _ _ F' (by rw [List.length_set, List.length_set]) (fun m hm => by rw [pr_set hp' m hm, pr_set hp m hm]) B3
end
end PL
set_option Elab.async false
set_option linter.all false
set_option maxRecDepth 100000
set_option maxHeartbeats 4000000
namespace Wk42
open PySem PySem.Spec PyProof.Rows L2 PL
/-! the functions that the defs tell -/
noncomputable section
def F__law_hand_l1 : PF := eLc (iSeq (eSl (ePk 0) oNone (oSome (eC (.int 63))))) [2] (gNm 2) tTrue (eNary clAbs (aCons (eNary clInt (aCons (ePk 2) aNil)) aNil))
/-- _law_hand: 0 script, 1 cells, 2 cell -/
def F__law_hand : FP := fnF 3 [false] (sSeq (sSet 1 F__law_hand_l1) (sRet (eLst (aCons (eVar 1) (aCons (eC (.int 0)) (aCons (eC (.int 0)) (aCons (eBin opAdd (eC (.int 83)) (eBin opMul (eC (.int 7)) (eNary clLen (aCons (ePk 1) aNil)))) (aCons (eC (.int 0)) aNil))))))))
/-- _law_draw: 0 hand, 1 limit, 2 cell, 3 digit, 4 number -/
def F__law_draw : FP := fnF 5 [false, false] (sSeq (sIf (tAndF (tOf (eBin opEq (eBin opIx (ePk 0) (eC (.int 2))) (eC (.int 0)))) (tOf (eBin opLt (eBin opIx (ePk 0) (eC (.int 1))) (eNary clLen (aCons (eBin opIx (ePk 0) (eC (.int 0))) aNil))))) (sSeq (sSet 2 (eBin opIx (eBin opIx (ePk 0) (eC (.int 0))) (eBin opIx (ePk 0) (eC (.int 1))))) (sSeq (sSetIx 0 (eBin opAdd (eBin opIx (ePk 0) (eC (.int 1))) (eC (.int 1))) (eC (.int 1))) (sSeq (sSetIx 0 (eBin opMod (eNary clInt (aCons (eBin opAdd (eBin opAdd (eBin opMul (eBin opIx (ePk 0) (eC (.int 3))) (eC (.int 69621))) (ePk 2)) (eC (.int 29))) aNil)) (eC (.int 2147483629))) (eC (.int 3))) (sIf (tOf (eBin opGe (ePk 2) (eBin opPow (eC (.int 10)) (eC (.int 18))))) (sSetIx 0 (eVar 2) (eC (.int 2))) sNil)))) sNil) (sSeq (sIf (tOf (eBin opGt (eBin opIx (ePk 0) (eC (.int 2))) (eC (.int 0)))) (sSeq (sSet 3 (eBin opMod (eNary clInt (aCons (eBin opIx (ePk 0) (eC (.int 2))) aNil)) (ePk 1))) (sSeq (sSetIx 0 (eBin opFdiv (eBin opIx (ePk 0) (eC (.int 2))) (ePk 1)) (eC (.int 2))) (sRet (eVar 3)))) sNil) (sSeq (sSetIx 0 (eBin opAdd (eBin opIx (ePk 0) (eC (.int 4))) (eC (.int 1))) (eC (.int 4))) (sSeq (sSet 4 (eBin opMod (eNary clInt (aCons (eBin opMul (eNary clInt (aCons (eBin opAdd (eBin opIx (ePk 0) (eC (.int 3))) (eBin opMul (eC (.int 7919)) (eBin opIx (ePk 0) (eC (.int 4))))) aNil)) (eC (.int 48271))) aNil)) (eC (.int 2147483647)))) (sSeq (sSet 4 (eBin opMod (eNary clInt (aCons (eBin opMul (ePk 4) (eBin opAdd (eBin opFdiv (ePk 4) (eC (.int 1009))) (eC (.int 69621)))) aNil)) (eC (.int 2147483647)))) (sSeq (sSet 4 (eBin opMod (eNary clInt (aCons (eBin opMul (ePk 4) (eBin opAdd (eBin opFdiv (ePk 4) (eC (.int 2003))) (eC (.int 40692)))) aNil)) (eC (.int 2147483399)))) (sRet (eBin opMod (eNary clInt (aCons (eBin opFdiv (ePk 4) (eC (.int 16))) aNil)) (ePk 1)))))))))
def F__law_is_l1 (g_ : FP) : PF := eLc (iZip2 (aCons (eVar 0) (aCons (eVar 1) aNil))) [2, 3] (gTp (gsCons (gNm 2) (gsCons (gNm 3) gsNil))) tTrue (eCall g_ (aCons (eVar 2) (aCons (eVar 3) aNil)))
def F__law_is_s (g_ : FP) : FP := fnF 4 [false, false] (sSeq (sIf (tOf (eNary clIsi (aCons (ePk 1) (aCons (eTup (aCons (eC (.ty .tuple)) (aCons (eC (.ty .list)) aNil))) aNil)))) (sSeq (sIf (tOrF (tOf (eBin opNe (eNary clIsi (aCons (ePk 0) (aCons (eC (.ty .tuple)) aNil))) (eNary clIsi (aCons (ePk 1) (aCons (eC (.ty .tuple)) aNil))))) (tOf (eBin opNe (eNary clIsi (aCons (ePk 0) (aCons (eC (.ty .list)) aNil))) (eNary clIsi (aCons (ePk 1) (aCons (eC (.ty .list)) aNil)))))) (sRet (eC (.bl false))) sNil) (sRet (eAndF (eBin opEq (eNary clLen (aCons (ePk 0) aNil)) (eNary clLen (aCons (ePk 1) aNil))) (eNary clAll (aCons (F__law_is_l1 g_) aNil))))) sNil) (sSeq (sIf (tOrF (tOf (eBin opIs (ePk 1) (eC .non))) (tOf (eBin opIs (ePk 0) (eC .non)))) (sRet (eAndF (eBin opIs (ePk 1) (eC .non)) (eBin opIs (ePk 0) (eC .non)))) sNil) (sSeq (sIf (tOrF (tOf (eBin opNe (eNary clIsi (aCons (ePk 0) (aCons (eC (.ty .bool)) aNil))) (eNary clIsi (aCons (ePk 1) (aCons (eC (.ty .bool)) aNil))))) (tOf (eBin opNe (eNary clIsi (aCons (ePk 0) (aCons (eC (.ty .int)) aNil))) (eNary clIsi (aCons (ePk 1) (aCons (eC (.ty .int)) aNil)))))) (sRet (eC (.bl false))) sNil) (sRet (eAndF (eBin opEq (eNary clIsi (aCons (ePk 0) (aCons (eC (.ty .str)) aNil))) (eNary clIsi (aCons (ePk 1) (aCons (eC (.ty .str)) aNil)))) (eBin opEq (ePk 0) (ePk 1)))))))
def F__law_is_r : Nat → FP
  | 0 => fun _ => none
  | n + 1 => F__law_is_s (F__law_is_r n)
def F__law_is : FP := F__law_is_r 8
/-- is_row: 0 thing -/
def F_is_row : FP := fnF 1 [false] (sRet (eNary clIsi (aCons (ePk 0) (aCons (eTup (aCons (eC (.ty .list)) (aCons (eC (.ty .tuple)) aNil))) aNil))))
/-- is_integer: 0 thing -/
def F_is_integer : FP := fnF 1 [false] (sRet (eAndF (eNary clIsi (aCons (ePk 0) (aCons (eC (.ty .int)) aNil))) (eNotF (eNary clIsi (aCons (ePk 0) (aCons (eC (.ty .bool)) aNil))))))
/-- is_within: 0 thing, 1 low, 2 high -/
def F_is_within : FP := fnF 3 [false, false, false] (sRet (eAndF (eCall F_is_integer (aCons (eVar 0) aNil)) (eChain opLe opLe (ePk 1) (ePk 0) (ePk 2))))
def F_check_times_l1 : PF := eLc (iSeq (eVar 0)) [2] (gNm 2) tTrue (eCall F_is_within (aCons (eVar 2) (aCons (eC (.int 0)) (aCons (eC (.int 100000)) aNil))))
/-- check_times: 0 thing, 1 many, 2 one -/
def F_check_times : FP := fnF 3 [false, false] (sIf (tOrF (tNotF (tOf (eCall F_is_row (aCons (eVar 0) aNil)))) (tOrF (tOf (eBin opNe (eNary clLen (aCons (ePk 0) aNil)) (ePk 1))) (tNotF (tOf (eNary clAll (aCons F_check_times_l1 aNil)))))) sNever sNil)
def F_check_line_l1 : PF := eLc (iZip2 (aCons (eVar 0) (aCons (eSl (ePk 0) (oSome (eC (.int 1))) oNone) aNil))) [2, 3] (gTp (gsCons (gNm 2) (gsCons (gNm 3) gsNil))) tTrue (eBin opGt (ePk 2) (ePk 3))
/-- check_line: 0 comes, 1 serves, 2 one, 3 other -/
def F_check_line : FP := fnF 4 [false, false] (sSeq (sIf (tOrF (tNotF (tOf (eCall F_is_row (aCons (eVar 0) aNil)))) (tNotF (tOf (eChain opLe opLe (eC (.int 1)) (eNary clLen (aCons (ePk 0) aNil)) (eC (.int 30)))))) sNever sNil) (sSeq (sExpr (eCall F_check_times (aCons (eVar 0) (aCons (eNary clLen (aCons (ePk 0) aNil)) aNil)))) (sSeq (sIf (tOf (eNary clAny (aCons F_check_line_l1 aNil))) sNever sNil) (sExpr (eCall F_check_times (aCons (eVar 1) (aCons (eNary clLen (aCons (ePk 0) aNil)) aNil)))))))
def F_leaves_b1 : PSF := sSeq (sSet 5 (eIf (tOf (eBin opNe (ePk 2) (eLst aNil))) (eNary clMax2 (aCons (ePk 3) (aCons (eBin opIx (ePk 2) (eNeg (eC (.int 1)))) aNil))) (eVar 3))) (sExpr (eAppend 2 (eBin opAdd (ePk 5) (ePk 4))))
def F_leaves_f1 : PSF := sFor (iZip2 (aCons (eVar 0) (aCons (eVar 1) aNil))) (gTp (gsCons (gNm 3) (gsCons (gNm 4) gsNil))) F_leaves_b1
/-- leaves: 0 comes, 1 serves, 2 found, 3 come, 4 serve, 5 begin -/
def F_leaves : FP := fnF 6 [false, false] (sSeq (sExpr (eCall F_check_line (aCons (eVar 0) (aCons (eVar 1) aNil)))) (sSeq (sSet 2 (eLst aNil)) (sSeq F_leaves_f1 (sRet (eNary clTuple (aCons (ePk 2) aNil))))))
def F_waits_l1 : PF := eLc (iZip3 (aCons (eVar 0) (aCons (eVar 1) (aCons (eCall F_leaves (aCons (eVar 0) (aCons (eVar 1) aNil))) aNil)))) [2, 3, 4] (gTp (gsCons (gNm 2) (gsCons (gNm 3) (gsCons (gNm 4) gsNil)))) tTrue (eBin opSub (eBin opSub (ePk 4) (ePk 3)) (ePk 2))
/-- waits: 0 comes, 1 serves, 2 come, 3 serve, 4 leave -/
def F_waits : FP := fnF 5 [false, false] (sRet (eNary clTuple (aCons F_waits_l1 aNil)))
def F_common_divisor_b1 : PSF := sPar 0 1 (aCons (eVar 1) (aCons (eBin opMod (eNary clInt (aCons (ePk 0) aNil)) (ePk 1)) aNil))
def F_common_divisor_w1 : PSF := sWhile (tOf (eBin opGt (ePk 1) (eC (.int 0)))) F_common_divisor_b1
/-- common_divisor: 0 one, 1 other -/
def F_common_divisor : FP := fnF 2 [true, true] (sSeq F_common_divisor_w1 (sRet (eVar 0)))
/-- fraction: 0 top, 1 bottom, 2 divisor -/
def F_fraction : FP := fnF 3 [true, true] (sSeq (sIf (tOf (eBin opLt (ePk 1) (eC (.int 0)))) (sPar 0 1 (aCons (eNeg (ePk 0)) (aCons (eNeg (ePk 1)) aNil))) sNil) (sSeq (sSet 2 (eCall F_common_divisor (aCons (eNary clAbs (aCons (ePk 0) aNil)) (aCons (eVar 1) aNil)))) (sRet (eTup (aCons (eBin opFdiv (ePk 0) (ePk 2)) (aCons (eBin opFdiv (ePk 1) (ePk 2)) aNil))))))
/-- mean_wait: 0 comes, 1 serves, 2 told -/
def F_mean_wait : FP := fnF 3 [false, false] (sSeq (sSet 2 (eCall F_waits (aCons (eVar 0) (aCons (eVar 1) aNil)))) (sRet (eCall F_fraction (aCons (eNary clSum2 (aCons (ePk 2) aNil)) (aCons (eNary clLen (aCons (ePk 2) aNil)) aNil)))))
def F__law_fraction_b1 : PSF := sPar 2 3 (aCons (eVar 3) (aCons (eBin opMod (eNary clInt (aCons (ePk 2) aNil)) (ePk 3)) aNil))
def F__law_fraction_w1 : PSF := sWhile (tOf (eBin opGt (ePk 3) (eC (.int 0)))) F__law_fraction_b1
/-- _law_fraction: 0 top, 1 bottom, 2 one, 3 other -/
def F__law_fraction : FP := fnF 4 [false, false] (sSeq (sPar 2 3 (aCons (eNary clAbs (aCons (ePk 0) aNil)) (aCons (eVar 1) aNil))) (sSeq F__law_fraction_w1 (sRet (eIf (tOf (eBin opGt (ePk 2) (eC (.int 0)))) (eTup (aCons (eBin opFdiv (ePk 0) (ePk 2)) (aCons (eBin opFdiv (ePk 1) (ePk 2)) aNil))) (eTup (aCons (eC (.int 0)) (aCons (eC (.int 1)) aNil)))))))
def F_pauses_b1 : PSF := sIf (tOf (eBin opGt (ePk 5) (ePk 4))) (sExpr (eAppend 3 (eTup (aCons (eVar 4) (aCons (eVar 5) aNil))))) sNil
def F_pauses_f1 : PSF := sFor (iZip2 (aCons (eVar 2) (aCons (eSl (ePk 0) (oSome (eC (.int 1))) oNone) aNil))) (gTp (gsCons (gNm 4) (gsCons (gNm 5) gsNil))) F_pauses_b1
/-- pauses: 0 comes, 1 serves, 2 told, 3 found, 4 leave, 5 come -/
def F_pauses : FP := fnF 6 [false, false] (sSeq (sPar 2 3 (aCons (eCall F_leaves (aCons (eVar 0) (aCons (eVar 1) aNil))) (aCons (eLst aNil) aNil))) (sSeq F_pauses_f1 (sRet (eMv 3))))
def F_room_l1 : PF := eLc (iZip2 (aCons (eVar 0) (aCons (eVar 2) aNil))) [6, 7] (gTp (gsCons (gNm 6) (gsCons (gNm 7) gsNil))) (tOf (eChain opLe opLt (ePk 6) (ePk 4) (ePk 7))) (eC (.int 1))
def F_room_b1 : PSF := sSeq (sSet 5 (eNary clLen (aCons F_room_l1 aNil))) (sSet 3 (eNary clMax2 (aCons (ePk 3) (aCons (ePk 5) aNil))))
def F_room_f1 : PSF := sFor (iSeq (eVar 0)) (gNm 4) F_room_b1
/-- room: 0 comes, 1 serves, 2 told, 3 best, 4 time, 5 here, 6 come, 7 leave -/
def F_room : FP := fnF 8 [false, false] (sSeq (sPar 2 3 (aCons (eCall F_leaves (aCons (eVar 0) (aCons (eVar 1) aNil))) (aCons (eC (.int 0)) aNil))) (sSeq F_room_f1 (sRet (eVar 3))))
def F_reason_b1 : PSF := sIf (tOf (eBin opEq (eBin opAdd (eBin opIx (ePk 0) (ePk 4)) (eNary clSum2 (aCons (eSl (ePk 1) (oSome (ePk 4)) (oSome (eBin opAdd (ePk 2) (eC (.int 1))))) aNil))) (ePk 3))) (sRet (eVar 4)) sNil
def F_reason_f1 : PSF := sFor (iRange1 (eBin opAdd (ePk 2) (eC (.int 1)))) (gNm 4) F_reason_b1
/-- reason: 0 comes, 1 serves, 2 person, 3 due, 4 first -/
def F_reason : FP := fnF 5 [false, false, false] (sSeq (sExpr (eCall F_check_line (aCons (eVar 0) (aCons (eVar 1) aNil)))) (sSeq (sIf (tNotF (tOf (eCall F_is_within (aCons (eVar 2) (aCons (eC (.int 0)) (aCons (eBin opSub (eNary clLen (aCons (ePk 0) aNil)) (eC (.int 1))) aNil)))))) sNever sNil) (sSeq (sSet 3 (eBin opIx (eCall F_leaves (aCons (eVar 0) (aCons (eVar 1) aNil))) (ePk 2))) (sSeq F_reason_f1 (sRet (eC .non))))))
def F_is_reason_l1 : PF := eLc (iRange1 (eBin opAdd (ePk 2) (eC (.int 1)))) [5] (gNm 5) tTrue (eBin opAdd (eBin opIx (ePk 0) (ePk 5)) (eNary clSum2 (aCons (eSl (ePk 1) (oSome (ePk 5)) (oSome (eBin opAdd (ePk 2) (eC (.int 1))))) aNil)))
/-- is_reason: 0 comes, 1 serves, 2 person, 3 thing, 4 sums, 5 first -/
def F_is_reason : FP := fnF 6 [false, false, false, false] (sSeq (sIf (tNotF (tOf (eCall F_is_within (aCons (eVar 3) (aCons (eC (.int 0)) (aCons (eVar 2) aNil)))))) (sRet (eC (.bl false))) sNil) (sSeq (sSet 4 F_is_reason_l1) (sRet (eBin opEq (eBin opIx (ePk 4) (ePk 3)) (eNary clMax2 (aCons (ePk 4) aNil))))))
def F_law_b1 : PSF := sSeq (sSet 5 (eBin opAdd (ePk 5) (eCall F__law_draw (aCons (eBor 1) (aCons (eC (.int 5)) aNil))))) (sExpr (eAppend 4 (eVar 5)))
def F_law_f1 : PSF := sFor (iRange1 (ePk 3)) (gNm 6) F_law_b1
def F_law_l1 : PF := eLc (iRange1 (ePk 3)) [6] (gNm 6) tTrue (eBin opAdd (eC (.int 1)) (eCall F__law_draw (aCons (eBor 1) (aCons (eC (.int 4)) aNil))))
def F_law_b2 : PSF := sSeq (sSet 9 (eBin opAdd (eNary clMax2 (aCons (ePk 9) (aCons (ePk 10) aNil))) (ePk 11))) (sExpr (eAppend 8 (eVar 9)))
def F_law_f2 : PSF := sFor (iZip2 (aCons (eVar 4) (aCons (eVar 7) aNil))) (gTp (gsCons (gNm 10) (gsCons (gNm 11) gsNil))) F_law_b2
def F_law_l2 : PF := eLc (iZip3 (aCons (eVar 4) (aCons (eVar 7) (aCons (eVar 8) aNil)))) [10, 11, 21] (gTp (gsCons (gNm 10) (gsCons (gNm 11) (gsCons (gNm 21) gsNil)))) tTrue (eBin opSub (eBin opSub (ePk 21) (ePk 11)) (ePk 10))
def F_law_l3 : PF := eLc (iZip2 (aCons (eVar 8) (aCons (eSl (ePk 4) (oSome (eC (.int 1))) oNone) aNil))) [21, 10] (gTp (gsCons (gNm 21) (gsCons (gNm 10) gsNil))) (tOf (eBin opGt (ePk 10) (ePk 21))) (eTup (aCons (eVar 21) (aCons (eVar 10) aNil)))
def F_law_l4 : PF := eLc (iZip2 (aCons (eVar 4) (aCons (eVar 8) aNil))) [10, 21] (gTp (gsCons (gNm 10) (gsCons (gNm 21) gsNil))) (tOf (eChain opLe opLt (ePk 10) (ePk 15) (ePk 21))) (eC (.int 1))
def F_law_b3 : PSF := sExpr (eAppend 14 (eNary clLen (aCons F_law_l4 aNil)))
def F_law_f3 : PSF := sFor (iRange1 (eBin opAdd (eBin opIx (ePk 8) (eNeg (eC (.int 1)))) (eC (.int 1)))) (gNm 15) F_law_b3
def F_law_l5 : PF := eLc (iRange1 (eBin opAdd (ePk 16) (eC (.int 1)))) [18] (gNm 18) tTrue (eBin opAdd (eBin opIx (ePk 4) (ePk 18)) (eNary clSum2 (aCons (eSl (ePk 7) (oSome (ePk 18)) (oSome (eBin opAdd (ePk 16) (eC (.int 1))))) aNil)))
def F_law_b4 : PSF := sSeq (sSet 19 (eAndF (eNary clIsi (aCons (ePk 18) (aCons (eC (.ty .int)) aNil))) (eAndF (eNotF (eNary clIsi (aCons (ePk 18) (aCons (eC (.ty .bool)) aNil)))) (eChain opLe opLe (eC (.int 0)) (ePk 18) (ePk 16))))) (sIf (tNotF (tOf (eCall F__law_is (aCons (eCall F_is_reason (aCons (eVar 4) (aCons (eVar 7) (aCons (eVar 16) (aCons (eVar 18) aNil))))) (aCons (eAndF (eVar 19) (eBin opEq (eBin opIx (ePk 17) (ePk 18)) (eNary clMax2 (aCons (ePk 17) aNil)))) aNil))))) (sRet (eC (.bl false))) sNil)
def F_law_f4 : PSF := sFor (iSeq (eBin opAdd (eListRg (iRange2 (eNeg (eC (.int 1))) (eBin opAdd (ePk 3) (eC (.int 1))))) (eLst (aCons (eC .non) (aCons (eC (.bl true)) (aCons (eC (.str "0")) aNil)))))) (gNm 18) F_law_b4
def F_law_l6 : PF := eLc (iZip2 (aCons (eCall F_leaves (aCons (eVar 4) (aCons (eVar 20) aNil))) (aCons (eVar 8) aNil))) [22, 23] (gTp (gsCons (gNm 22) (gsCons (gNm 23) gsNil))) tTrue (eBin opGt (ePk 22) (ePk 23))
def F_law_l7 : PF := eLc (iSeq (eVar 4)) [10] (gNm 10) tTrue (eNary clMax2 (aCons (eC (.int 0)) (aCons (eBin opSub (ePk 10) (eC (.int 1))) aNil)))
def F_law_l8 : PF := eLc (iZip2 (aCons (eCall F_leaves (aCons F_law_l7 (aCons (eVar 7) aNil))) (aCons (eVar 8) aNil))) [22, 23] (gTp (gsCons (gNm 22) (gsCons (gNm 23) gsNil))) tTrue (eBin opGt (ePk 22) (ePk 23))
def F_law_b5 : PSF := sSeq (sSet 3 (eBin opAdd (eC (.int 1)) (eCall F__law_draw (aCons (eBor 1) (aCons (eC (.int 7)) aNil))))) (sSeq (sPar 4 5 (aCons (eLst aNil) (aCons (eC (.int 0)) aNil))) (sSeq F_law_f1 (sSeq (sSet 7 F_law_l1) (sSeq (sPar 8 9 (aCons (eLst aNil) (aCons (eC (.int 0)) aNil))) (sSeq F_law_f2 (sSeq (sIf (tNotF (tOf (eCall F__law_is (aCons (eCall F_leaves (aCons (eVar 4) (aCons (eNary clTuple (aCons (ePk 7) aNil)) aNil))) (aCons (eNary clTuple (aCons (ePk 8) aNil)) aNil))))) (sRet (eC (.bl false))) sNil) (sSeq (sSet 12 F_law_l2) (sSeq (sIf (tNotF (tOf (eCall F__law_is (aCons (eCall F_waits (aCons (eVar 4) (aCons (eVar 7) aNil))) (aCons (eNary clTuple (aCons (ePk 12) aNil)) aNil))))) (sRet (eC (.bl false))) sNil) (sSeq (sIf (tNotF (tOf (eCall F__law_is (aCons (eCall F_mean_wait (aCons (eVar 4) (aCons (eVar 7) aNil))) (aCons (eCall F__law_fraction (aCons (eNary clSum2 (aCons (ePk 12) aNil)) (aCons (eVar 3) aNil))) aNil))))) (sRet (eC (.bl false))) sNil) (sSeq (sSet 13 F_law_l3) (sSeq (sIf (tNotF (tOf (eCall F__law_is (aCons (eCall F_pauses (aCons (eVar 4) (aCons (eVar 7) aNil))) (aCons (eVar 13) aNil))))) (sRet (eC (.bl false))) sNil) (sSeq (sSet 14 (eLst aNil)) (sSeq F_law_f3 (sSeq (sIf (tNotF (tOf (eCall F__law_is (aCons (eCall F_room (aCons (eVar 4) (aCons (eVar 7) aNil))) (aCons (eNary clMax2 (aCons (ePk 14) aNil)) aNil))))) (sRet (eC (.bl false))) sNil) (sSeq (sSet 16 (eCall F__law_draw (aCons (eBor 1) (aCons (eVar 3) aNil)))) (sSeq (sSet 17 F_law_l5) (sSeq (sIf (tOrF (tOf (eBin opNe (eNary clMax2 (aCons (ePk 17) aNil)) (eBin opIx (ePk 8) (ePk 16)))) (tNotF (tOf (eCall F__law_is (aCons (eCall F_reason (aCons (eVar 4) (aCons (eVar 7) (aCons (eVar 16) aNil)))) (aCons (eIndex (ePk 17) (eNary clMax2 (aCons (ePk 17) aNil))) aNil)))))) (sRet (eC (.bl false))) sNil) (sSeq F_law_f4 (sSeq (sSet 20 (eBin opAdd (eBin opAdd (eSl (ePk 7) oNone (oSome (ePk 16))) (eLst (aCons (eBin opSub (eBin opIx (ePk 7) (ePk 16)) (eC (.int 1))) aNil))) (eSl (ePk 7) (oSome (eBin opAdd (ePk 16) (eC (.int 1)))) oNone))) (sSeq (sIf (tOf (eNary clAny (aCons F_law_l6 aNil))) (sRet (eC (.bl false))) sNil) (sIf (tOf (eNary clAny (aCons F_law_l8 aNil))) (sRet (eC (.bl false))) sNil)))))))))))))))))))))
def F_law_f5 : PSF := sFor (iRange1 (eC (.int 4))) (gNm 2) F_law_b5
/-- law: 0 script, 1 hand, 2 turn, 3 many, 4 comes, 5 time, 6 at, 7 serves, 8 due, 9 last, 10 come, 11 serve, 12 wait, 13 idle, 14 here, 15 tick, 16 person, 17 sums, 18 first, 19 good, 20 short, 21 leave, 22 a, 23 b -/
def F_law : FP := fnF 24 [false] (sSeq (sSet 1 (eCall F__law_hand (aCons (eVar 0) aNil))) (sSeq F_law_f5 (sRet (eC (.bl true)))))
end
end Wk42
set_option Elab.async false
set_option linter.all false
set_option maxRecDepth 100000
set_option maxHeartbeats 4000000
namespace Wk42
open PySem PySem.Spec PyProof.Rows L2 PL
/-! the text -/
def top (i : Nat) : Stmt := PySem.Challenge.pw_latersums_k42_whole_one_line_of_waiting.main.body.getD i (.Pass ⟨0, 0, 0, 0⟩)
abbrev s__law_hand : Stmt := top 22
theorem sc__law_hand : FnScope ["script", "cells", "cell"] ["script"] (defScope s__law_hand) := ⟨rfl, rfl, rfl, by decide +kernel, rfl, by decide +kernel, by decide +kernel⟩
abbrev s__law_draw : Stmt := top 23
theorem sc__law_draw : FnScope ["hand", "limit", "cell", "digit", "number"] ["hand", "limit"] (defScope s__law_draw) := ⟨rfl, rfl, rfl, by decide +kernel, rfl, by decide +kernel, by decide +kernel⟩
abbrev s__law_is : Stmt := top 24
theorem sc__law_is : FnScope ["shown", "due", "one", "other"] ["shown", "due"] (defScope s__law_is) := ⟨rfl, rfl, rfl, by decide +kernel, rfl, by decide +kernel, by decide +kernel⟩
abbrev s_is_row : Stmt := top 3
theorem sc_is_row : FnScope ["thing"] ["thing"] (defScope s_is_row) := ⟨rfl, rfl, rfl, by decide +kernel, rfl, by decide +kernel, by decide +kernel⟩
abbrev s_is_integer : Stmt := top 1
theorem sc_is_integer : FnScope ["thing"] ["thing"] (defScope s_is_integer) := ⟨rfl, rfl, rfl, by decide +kernel, rfl, by decide +kernel, by decide +kernel⟩
abbrev s_is_within : Stmt := top 2
theorem sc_is_within : FnScope ["thing", "low", "high"] ["thing", "low", "high"] (defScope s_is_within) := ⟨rfl, rfl, rfl, by decide +kernel, rfl, by decide +kernel, by decide +kernel⟩
abbrev s_check_times : Stmt := top 12
theorem sc_check_times : FnScope ["thing", "many", "one"] ["thing", "many"] (defScope s_check_times) := ⟨rfl, rfl, rfl, by decide +kernel, rfl, by decide +kernel, by decide +kernel⟩
abbrev s_check_line : Stmt := top 13
theorem sc_check_line : FnScope ["comes", "serves", "one", "other"] ["comes", "serves"] (defScope s_check_line) := ⟨rfl, rfl, rfl, by decide +kernel, rfl, by decide +kernel, by decide +kernel⟩
abbrev s_leaves : Stmt := top 14
theorem sc_leaves : FnScope ["comes", "serves", "found", "come", "serve", "begin"] ["comes", "serves"] (defScope s_leaves) := ⟨rfl, rfl, rfl, by decide +kernel, rfl, by decide +kernel, by decide +kernel⟩
abbrev s_waits : Stmt := top 15
theorem sc_waits : FnScope ["comes", "serves", "come", "serve", "leave"] ["comes", "serves"] (defScope s_waits) := ⟨rfl, rfl, rfl, by decide +kernel, rfl, by decide +kernel, by decide +kernel⟩
abbrev s_common_divisor : Stmt := top 4
theorem sc_common_divisor : FnScope ["one", "other"] ["one", "other"] (defScope s_common_divisor) := ⟨rfl, rfl, rfl, by decide +kernel, rfl, by decide +kernel, by decide +kernel⟩
abbrev s_fraction : Stmt := top 5
theorem sc_fraction : FnScope ["top", "bottom", "divisor"] ["top", "bottom"] (defScope s_fraction) := ⟨rfl, rfl, rfl, by decide +kernel, rfl, by decide +kernel, by decide +kernel⟩
abbrev s_mean_wait : Stmt := top 19
theorem sc_mean_wait : FnScope ["comes", "serves", "told"] ["comes", "serves"] (defScope s_mean_wait) := ⟨rfl, rfl, rfl, by decide +kernel, rfl, by decide +kernel, by decide +kernel⟩
abbrev s__law_fraction : Stmt := top 25
theorem sc__law_fraction : FnScope ["top", "bottom", "one", "other"] ["top", "bottom"] (defScope s__law_fraction) := ⟨rfl, rfl, rfl, by decide +kernel, rfl, by decide +kernel, by decide +kernel⟩
abbrev s_pauses : Stmt := top 18
theorem sc_pauses : FnScope ["comes", "serves", "told", "found", "leave", "come"] ["comes", "serves"] (defScope s_pauses) := ⟨rfl, rfl, rfl, by decide +kernel, rfl, by decide +kernel, by decide +kernel⟩
abbrev s_room : Stmt := top 20
theorem sc_room : FnScope ["comes", "serves", "told", "best", "time", "here", "come", "leave"] ["comes", "serves"] (defScope s_room) := ⟨rfl, rfl, rfl, by decide +kernel, rfl, by decide +kernel, by decide +kernel⟩
abbrev s_reason : Stmt := top 16
theorem sc_reason : FnScope ["comes", "serves", "person", "due", "first"] ["comes", "serves", "person"] (defScope s_reason) := ⟨rfl, rfl, rfl, by decide +kernel, rfl, by decide +kernel, by decide +kernel⟩
abbrev s_is_reason : Stmt := top 17
theorem sc_is_reason : FnScope ["comes", "serves", "person", "thing", "sums", "first"] ["comes", "serves", "person", "thing"] (defScope s_is_reason) := ⟨rfl, rfl, rfl, by decide +kernel, rfl, by decide +kernel, by decide +kernel⟩
abbrev s_law : Stmt := top 26
theorem sc_law : FnScope ["script", "hand", "turn", "many", "comes", "time", "at", "serves", "due", "last", "come", "serve", "wait", "idle", "here", "tick", "person", "sums", "first", "good", "short", "leave", "a", "b"] ["script"] (defScope s_law) := ⟨rfl, rfl, rfl, by decide +kernel, rfl, by decide +kernel, by decide +kernel⟩
def flds : Nat → List Str := fun c => match c with | _ => []
/-- what the top has written -/
structure Tx (K : PySem.W.Frag) (mg : Str → Option Value) where
  f__law_hand : Addr
  d__law_hand : FuncData
  f__law_draw : Addr
  d__law_draw : FuncData
  f__law_is : Addr
  d__law_is : FuncData
  f_is_row : Addr
  d_is_row : FuncData
  f_is_integer : Addr
  d_is_integer : FuncData
  f_is_within : Addr
  d_is_within : FuncData
  f_check_times : Addr
  d_check_times : FuncData
  f_check_line : Addr
  d_check_line : FuncData
  f_leaves : Addr
  d_leaves : FuncData
  f_waits : Addr
  d_waits : FuncData
  f_common_divisor : Addr
  d_common_divisor : FuncData
  f_fraction : Addr
  d_fraction : FuncData
  f_mean_wait : Addr
  d_mean_wait : FuncData
  f__law_fraction : Addr
  d__law_fraction : FuncData
  f_pauses : Addr
  d_pauses : FuncData
  f_room : Addr
  d_room : FuncData
  f_reason : Addr
  d_reason : FuncData
  f_is_reason : Addr
  d_is_reason : FuncData
  f_law : Addr
  d_law : FuncData
  F__law_hand : Fun K "_law_hand" "_law_hand" s__law_hand f__law_hand d__law_hand
  b__law_hand : Binds K d__law_hand ["script"] []
  g__law_hand : mg "_law_hand" = some (.ref f__law_hand)
  F__law_draw : Fun K "_law_draw" "_law_draw" s__law_draw f__law_draw d__law_draw
  b__law_draw : Binds K d__law_draw ["hand", "limit"] []
  g__law_draw : mg "_law_draw" = some (.ref f__law_draw)
  F__law_is : Fun K "_law_is" "_law_is" s__law_is f__law_is d__law_is
  b__law_is : Binds K d__law_is ["shown", "due"] []
  g__law_is : mg "_law_is" = some (.ref f__law_is)
  F_is_row : Fun K "is_row" "is_row" s_is_row f_is_row d_is_row
  b_is_row : Binds K d_is_row ["thing"] []
  g_is_row : mg "is_row" = some (.ref f_is_row)
  F_is_integer : Fun K "is_integer" "is_integer" s_is_integer f_is_integer d_is_integer
  b_is_integer : Binds K d_is_integer ["thing"] []
  g_is_integer : mg "is_integer" = some (.ref f_is_integer)
  F_is_within : Fun K "is_within" "is_within" s_is_within f_is_within d_is_within
  b_is_within : Binds K d_is_within ["thing", "low", "high"] []
  g_is_within : mg "is_within" = some (.ref f_is_within)
  F_check_times : Fun K "check_times" "check_times" s_check_times f_check_times d_check_times
  b_check_times : Binds K d_check_times ["thing", "many"] []
  g_check_times : mg "check_times" = some (.ref f_check_times)
  F_check_line : Fun K "check_line" "check_line" s_check_line f_check_line d_check_line
  b_check_line : Binds K d_check_line ["comes", "serves"] []
  g_check_line : mg "check_line" = some (.ref f_check_line)
  F_leaves : Fun K "leaves" "leaves" s_leaves f_leaves d_leaves
  b_leaves : Binds K d_leaves ["comes", "serves"] []
  g_leaves : mg "leaves" = some (.ref f_leaves)
  F_waits : Fun K "waits" "waits" s_waits f_waits d_waits
  b_waits : Binds K d_waits ["comes", "serves"] []
  g_waits : mg "waits" = some (.ref f_waits)
  F_common_divisor : Fun K "common_divisor" "common_divisor" s_common_divisor f_common_divisor d_common_divisor
  b_common_divisor : Binds K d_common_divisor ["one", "other"] []
  g_common_divisor : mg "common_divisor" = some (.ref f_common_divisor)
  F_fraction : Fun K "fraction" "fraction" s_fraction f_fraction d_fraction
  b_fraction : Binds K d_fraction ["top", "bottom"] []
  g_fraction : mg "fraction" = some (.ref f_fraction)
  F_mean_wait : Fun K "mean_wait" "mean_wait" s_mean_wait f_mean_wait d_mean_wait
  b_mean_wait : Binds K d_mean_wait ["comes", "serves"] []
  g_mean_wait : mg "mean_wait" = some (.ref f_mean_wait)
  F__law_fraction : Fun K "_law_fraction" "_law_fraction" s__law_fraction f__law_fraction d__law_fraction
  b__law_fraction : Binds K d__law_fraction ["top", "bottom"] []
  g__law_fraction : mg "_law_fraction" = some (.ref f__law_fraction)
  F_pauses : Fun K "pauses" "pauses" s_pauses f_pauses d_pauses
  b_pauses : Binds K d_pauses ["comes", "serves"] []
  g_pauses : mg "pauses" = some (.ref f_pauses)
  F_room : Fun K "room" "room" s_room f_room d_room
  b_room : Binds K d_room ["comes", "serves"] []
  g_room : mg "room" = some (.ref f_room)
  F_reason : Fun K "reason" "reason" s_reason f_reason d_reason
  b_reason : Binds K d_reason ["comes", "serves", "person"] []
  g_reason : mg "reason" = some (.ref f_reason)
  F_is_reason : Fun K "is_reason" "is_reason" s_is_reason f_is_reason d_is_reason
  b_is_reason : Binds K d_is_reason ["comes", "serves", "person", "thing"] []
  g_is_reason : mg "is_reason" = some (.ref f_is_reason)
  F_law : Fun K "law" "law" s_law f_law d_law
  b_law : Binds K d_law ["script"] []
  g_law : mg "law" = some (.ref f_law)
  m_abs : mg "abs" = none
  m_all : mg "all" = none
  m_any : mg "any" = none
  m_bool : mg "bool" = none
  m_int : mg "int" = none
  m_isinstance : mg "isinstance" = none
  m_len : mg "len" = none
  m_list : mg "list" = none
  m_max : mg "max" = none
  m_range : mg "range" = none
  m_str : mg "str" = none
  m_sum : mg "sum" = none
  m_tuple : mg "tuple" = none
  m_zip : mg "zip" = none
  k_MOST_PEOPLE : ∃ u, mg "MOST_PEOPLE" = some u ∧ L2.RelV (.int 30) u
  k_MOST_TIME : ∃ u, mg "MOST_TIME" = some u ∧ L2.RelV (.int 100000) u
section
variable {P : Program} {w : World} {K : PySem.W.Frag} {mg : Str → Option Value} {base : Heap}
def RR (T : Tx K mg) : RE := { K := K, cl := fun c => match c with | _ => 0, fl := flds }
theorem ok__law_hand (T : Tx K mg) : FnP P w K mg base (RR T) 1 T.f__law_hand T.d__law_hand ["script"] F__law_hand :=
  fn_pl' (pr := [0]) T.F__law_hand sc__law_hand rfl (by decide) (by decide) (fun cdv A outer s H E hr => (ssv_cons (sv_setLc (own := [("cell", 2)]) rfl sc__law_hand.nd (i := 1) rfl rfl (by decide) (by rfl) (iv_seq rfl (ev_sl rfl (vPk 0) ov_none (ov_some ev_int))) (blkOk_by (by rfl)) (by decide) (by decide) (fun s H C cl fp => (gv_name (i := 2) sc__law_hand.nd rfl (by first | exact .inl rfl | exact .inr rfl))) (fun s H C cl fp => tsv_nil) (fun s H C cl fp => (ev_callB call_abs cok_abs (by rfl) T.m_abs boot_abs (av_cons (ev_callTy call_int1 cok_int (by rfl) T.m_int boot_int (av_cons (vPk 2) av_nil)) av_nil))) (s0 := s) (H0 := H)) (ssv_one (sv_ret (ev_lst (av_cons (vVar 1) (av_cons ev_int (av_cons ev_int (av_cons (ev_add rfl ev_int (ev_mul rfl ev_int (ev_callB L2.call_len cok_len (by rfl) T.m_len boot_len (av_cons (vPk 1) av_nil)))) (av_cons ev_int av_nil))))))))))
theorem ok__law_draw (T : Tx K mg) : FnP P w K mg base (RR T) 1 T.f__law_draw T.d__law_draw ["hand", "limit"] F__law_draw :=
  fn_pl' (pr := [0, 1]) T.F__law_draw sc__law_draw rfl (by decide) (by decide) (fun cdv A outer s H E hr => (ssv_cons (sv_if (Wv.tv (wv_and (tv_cmp (op_eqD (hu64 hr)) bin_eq (ev_ix rfl (vPk 0) ev_int) ev_int (nomark _)) (wv_and1 (tv_cmp op_lt bin_lt (ev_ix rfl (vPk 0) ev_int) (ev_callB L2.call_len cok_len (by rfl) T.m_len boot_len (av_cons (ev_ix rfl (vPk 0) ev_int) av_nil)) (nomark _))))) (ssv_cons (sv_set (i := 2) sc__law_draw.nd rfl (by first | exact .inl rfl | exact .inr rfl) (by decide) (ev_ix rfl (ev_ix rfl (vPk 0) ev_int) (ev_ix rfl (vPk 0) ev_int))) (ssv_cons (sv_setIx (i := 0) rfl (by first | exact .inl rfl | exact .inr (.inl rfl) | exact .inr (.inr rfl)) (ev_add rfl (ev_ix rfl (vPk 0) ev_int) ev_int) ev_int) (ssv_cons (sv_setIx (i := 0) rfl (by first | exact .inl rfl | exact .inr (.inl rfl) | exact .inr (.inr rfl)) (ev_mod (ev_callTy call_int1 cok_int (by rfl) T.m_int boot_int (av_cons (ev_add rfl (ev_add rfl (ev_mul rfl (ev_ix rfl (vPk 0) ev_int) ev_int) (vPk 2)) ev_int) av_nil)) ev_int) ev_int) (ssv_one (sv_if (tv_cmp op_ge bin_ge (vPk 2) (ev_pow ev_int ev_int) (nomark _)) (ssv_one (sv_setIx (i := 0) rfl (by first | exact .inl rfl | exact .inr (.inl rfl) | exact .inr (.inr rfl)) (vVar 2) ev_int)) ssv_nil))))) ssv_nil) (ssv_cons (sv_if (tv_cmp op_gt bin_gt (ev_ix rfl (vPk 0) ev_int) ev_int (nomark _)) (ssv_cons (sv_set (i := 3) sc__law_draw.nd rfl (by first | exact .inl rfl | exact .inr rfl) (by decide) (ev_mod (ev_callTy call_int1 cok_int (by rfl) T.m_int boot_int (av_cons (ev_ix rfl (vPk 0) ev_int) av_nil)) (vPk 1))) (ssv_cons (sv_setIx (i := 0) rfl (by first | exact .inl rfl | exact .inr (.inl rfl) | exact .inr (.inr rfl)) (ev_fdiv (ev_ix rfl (vPk 0) ev_int) (vPk 1)) ev_int) (ssv_one (sv_ret (vVar 3))))) ssv_nil) (ssv_cons (sv_setIx (i := 0) rfl (by first | exact .inl rfl | exact .inr (.inl rfl) | exact .inr (.inr rfl)) (ev_add rfl (ev_ix rfl (vPk 0) ev_int) ev_int) ev_int) (ssv_cons (sv_set (i := 4) sc__law_draw.nd rfl (by first | exact .inl rfl | exact .inr rfl) (by decide) (ev_mod (ev_callTy call_int1 cok_int (by rfl) T.m_int boot_int (av_cons (ev_mul rfl (ev_callTy call_int1 cok_int (by rfl) T.m_int boot_int (av_cons (ev_add rfl (ev_ix rfl (vPk 0) ev_int) (ev_mul rfl ev_int (ev_ix rfl (vPk 0) ev_int))) av_nil)) ev_int) av_nil)) ev_int)) (ssv_cons (sv_set (i := 4) sc__law_draw.nd rfl (by first | exact .inl rfl | exact .inr rfl) (by decide) (ev_mod (ev_callTy call_int1 cok_int (by rfl) T.m_int boot_int (av_cons (ev_mul rfl (vPk 4) (ev_add rfl (ev_fdiv (vPk 4) ev_int) ev_int)) av_nil)) ev_int)) (ssv_cons (sv_set (i := 4) sc__law_draw.nd rfl (by first | exact .inl rfl | exact .inr rfl) (by decide) (ev_mod (ev_callTy call_int1 cok_int (by rfl) T.m_int boot_int (av_cons (ev_mul rfl (vPk 4) (ev_add rfl (ev_fdiv (vPk 4) ev_int) ev_int)) av_nil)) ev_int)) (ssv_one (sv_ret (ev_mod (ev_callTy call_int1 cok_int (by rfl) T.m_int boot_int (av_cons (ev_fdiv (vPk 4) ev_int) av_nil)) (vPk 1)))))))))))
theorem ok__law_is_r (T : Tx K mg) : ∀ n : Nat, n ≤ 8 → FnP P w K mg base (RR T) (1 + n) T.f__law_is T.d__law_is ["shown", "due"] (F__law_is_r n)
  | 0, _ => fn_none T.F__law_is sc__law_is
  | n + 1, hn => by
    have ih := ok__law_is_r T n (by omega)
    exact fn_pl' (k := 1 + n) (pr := [0, 1]) T.F__law_is sc__law_is rfl (by decide) (by decide) (fun cdv A outer s H E hr => (ssv_cons (sv_if (tv_val (ev_callB (call_isi.or (call_isiT.or call_isiK)) cok_isi (by rfl) T.m_isinstance boot_isinstance (av_cons (vPk 1) (av_cons (ev_tup (av_cons (vTy .tuple T.m_tuple boot_tuple) (av_cons (vTy .list T.m_list boot_list) av_nil))) av_nil)))) (ssv_cons (sv_if (Wv.tv (wv_or (tv_cmp (op_neD (hu64 hr)) bin_ne (ev_callB (call_isi.or (call_isiT.or call_isiK)) cok_isi (by rfl) T.m_isinstance boot_isinstance (av_cons (vPk 0) (av_cons (vTy .tuple T.m_tuple boot_tuple) av_nil))) (ev_callB (call_isi.or (call_isiT.or call_isiK)) cok_isi (by rfl) T.m_isinstance boot_isinstance (av_cons (vPk 1) (av_cons (vTy .tuple T.m_tuple boot_tuple) av_nil))) (nomark _)) (wv_or1 (tv_cmp (op_neD (hu64 hr)) bin_ne (ev_callB (call_isi.or (call_isiT.or call_isiK)) cok_isi (by rfl) T.m_isinstance boot_isinstance (av_cons (vPk 0) (av_cons (vTy .list T.m_list boot_list) av_nil))) (ev_callB (call_isi.or (call_isiT.or call_isiK)) cok_isi (by rfl) T.m_isinstance boot_isinstance (av_cons (vPk 1) (av_cons (vTy .list T.m_list boot_list) av_nil))) (nomark _))))) (ssv_one (sv_ret ev_bl)) ssv_nil) (ssv_one (sv_ret (ev_and (ev_cmp (op_eqD (hu64 hr)) bin_eq (ev_callB L2.call_len cok_len (by rfl) T.m_len boot_len (av_cons (vPk 0) av_nil)) (ev_callB L2.call_len cok_len (by rfl) T.m_len boot_len (av_cons (vPk 1) av_nil)) (nomark _)) (ev_one (ev_callB (cr_all rfl) cok_all (by rfl) T.m_all boot_all (av_cons (ev_lc (own := [("one", 2), ("other", 3)]) rfl sc__law_is.nd (iv_zip2 rfl (by rfl) T.m_zip (av_cons (vVar 0) (av_cons (vVar 1) av_nil))) (blkOk_by (by rfl)) (by decide) (by decide) (fun s H C cl fp => (gv_tup (n := 2) rfl rfl (gsv_cons (gv_name (i := 2) sc__law_is.nd rfl (by first | exact .inl rfl | exact .inr rfl)) (gsv_cons (gv_name (i := 3) sc__law_is.nd rfl (by first | exact .inl rfl | exact .inr rfl)) gsv_nil)) (gs_lenS (gs_lenS gs_len0)))) (fun s H C cl fp => tsv_nil) (fun s H C cl fp => (ev_call ih (hr.mono (by omega)) (by rfl) T.g__law_is T.F__law_is.kp T.b__law_is (av_cons (vVar 2) (av_cons (vVar 3) av_nil)))) (s0 := s) (H0 := H)) av_nil))))))) ssv_nil) (ssv_cons (sv_if (Wv.tv (wv_or (tv_cmp op_isN bin_is (vPk 1) ev_non (nomark _)) (wv_or1 (tv_cmp op_isN bin_is (vPk 0) ev_non (nomark _))))) (ssv_one (sv_ret (ev_and (ev_cmp op_isN bin_is (vPk 1) ev_non (nomark _)) (ev_one (ev_cmp op_isN bin_is (vPk 0) ev_non (nomark _)))))) ssv_nil) (ssv_cons (sv_if (Wv.tv (wv_or (tv_cmp (op_neD (hu64 hr)) bin_ne (ev_callB (call_isi.or (call_isiT.or call_isiK)) cok_isi (by rfl) T.m_isinstance boot_isinstance (av_cons (vPk 0) (av_cons (vTy .bool T.m_bool boot_bool) av_nil))) (ev_callB (call_isi.or (call_isiT.or call_isiK)) cok_isi (by rfl) T.m_isinstance boot_isinstance (av_cons (vPk 1) (av_cons (vTy .bool T.m_bool boot_bool) av_nil))) (nomark _)) (wv_or1 (tv_cmp (op_neD (hu64 hr)) bin_ne (ev_callB (call_isi.or (call_isiT.or call_isiK)) cok_isi (by rfl) T.m_isinstance boot_isinstance (av_cons (vPk 0) (av_cons (vTy .int T.m_int boot_int) av_nil))) (ev_callB (call_isi.or (call_isiT.or call_isiK)) cok_isi (by rfl) T.m_isinstance boot_isinstance (av_cons (vPk 1) (av_cons (vTy .int T.m_int boot_int) av_nil))) (nomark _))))) (ssv_one (sv_ret ev_bl)) ssv_nil) (ssv_one (sv_ret (ev_and (ev_cmp (op_eqD (hu64 hr)) bin_eq (ev_callB (call_isi.or (call_isiT.or call_isiK)) cok_isi (by rfl) T.m_isinstance boot_isinstance (av_cons (vPk 0) (av_cons (vTy .str T.m_str boot_str) av_nil))) (ev_callB (call_isi.or (call_isiT.or call_isiK)) cok_isi (by rfl) T.m_isinstance boot_isinstance (av_cons (vPk 1) (av_cons (vTy .str T.m_str boot_str) av_nil))) (nomark _)) (ev_one (ev_cmp (op_eqD (hu64 hr)) bin_eq (vPk 0) (vPk 1) (nomark _)))))))))) (by omega)
theorem ok__law_is (T : Tx K mg) : FnP P w K mg base (RR T) 9 T.f__law_is T.d__law_is ["shown", "due"] F__law_is := ok__law_is_r T 8 (by omega)
theorem ok_is_row (T : Tx K mg) : FnP P w K mg base (RR T) 1 T.f_is_row T.d_is_row ["thing"] F_is_row :=
  fn_pl' (pr := [0]) T.F_is_row sc_is_row rfl (by decide) (by decide) (fun cdv A outer s H E hr => (ssv_one (sv_ret (ev_callB (call_isi.or (call_isiT.or call_isiK)) cok_isi (by rfl) T.m_isinstance boot_isinstance (av_cons (vPk 0) (av_cons (ev_tup (av_cons (vTy .list T.m_list boot_list) (av_cons (vTy .tuple T.m_tuple boot_tuple) av_nil))) av_nil))))))
theorem ok_is_integer (T : Tx K mg) : FnP P w K mg base (RR T) 1 T.f_is_integer T.d_is_integer ["thing"] F_is_integer :=
  fn_pl' (pr := [0]) T.F_is_integer sc_is_integer rfl (by decide) (by decide) (fun cdv A outer s H E hr => (ssv_one (sv_ret (ev_and (ev_callB (call_isi.or (call_isiT.or call_isiK)) cok_isi (by rfl) T.m_isinstance boot_isinstance (av_cons (vPk 0) (av_cons (vTy .int T.m_int boot_int) av_nil))) (ev_one (ev_not (ev_callB (call_isi.or (call_isiT.or call_isiK)) cok_isi (by rfl) T.m_isinstance boot_isinstance (av_cons (vPk 0) (av_cons (vTy .bool T.m_bool boot_bool) av_nil)))))))))
theorem ok_is_within (T : Tx K mg) : FnP P w K mg base (RR T) 2 T.f_is_within T.d_is_within ["thing", "low", "high"] F_is_within :=
  fn_pl' (pr := [0, 1, 2]) T.F_is_within sc_is_within rfl (by decide) (by decide) (fun cdv A outer s H E hr => (ssv_one (sv_ret (ev_and (ev_call (ok_is_integer T) (hr.mono (by decide)) (by rfl) T.g_is_integer T.F_is_integer.kp T.b_is_integer (av_cons (vVar 0) av_nil)) (ev_one (ev_chain op_le op_le bin_le bin_le (vPk 1) (vPk 0) (vPk 2)))))))
theorem ok_check_times (T : Tx K mg) : FnP P w K mg base (RR T) 3 T.f_check_times T.d_check_times ["thing", "many"] F_check_times :=
  fn_pl' (pr := [0, 1]) T.F_check_times sc_check_times rfl (by decide) (by decide) (fun cdv A outer s H E hr => (ssv_one (sv_if (Wv.tv (wv_or (tv_not (tv_val (ev_call (ok_is_row T) (hr.mono (by decide)) (by rfl) T.g_is_row T.F_is_row.kp T.b_is_row (av_cons (vVar 0) av_nil)))) (wv_or (tv_cmp (op_neD (hu64 hr)) bin_ne (ev_callB L2.call_len cok_len (by rfl) T.m_len boot_len (av_cons (vPk 0) av_nil)) (vPk 1) (nomark _)) (wv_or1 (tv_not (tv_val (ev_callB (cr_all rfl) cok_all (by rfl) T.m_all boot_all (av_cons (ev_lc (own := [("one", 2)]) rfl sc_check_times.nd (iv_seq rfl (vVar 0)) (blkOk_by (by rfl)) (by decide) (by decide) (fun s H C cl fp => (gv_name (i := 2) sc_check_times.nd rfl (by first | exact .inl rfl | exact .inr rfl))) (fun s H C cl fp => tsv_nil) (fun s H C cl fp => (ev_call (ok_is_within T) (hr.mono (by decide)) (by rfl) T.g_is_within T.F_is_within.kp T.b_is_within (av_cons (vVar 2) (av_cons ev_int (av_cons (ev_gc (v := .int 100000) (by rfl) T.k_MOST_TIME (fun F => .int _)) av_nil))))) (s0 := s) (H0 := H)) av_nil)))))))) (ssv_one sv_never) ssv_nil)))
theorem ok_check_line (T : Tx K mg) : FnP P w K mg base (RR T) 4 T.f_check_line T.d_check_line ["comes", "serves"] F_check_line :=
  fn_pl' (pr := [0, 1]) T.F_check_line sc_check_line rfl (by decide) (by decide) (fun cdv A outer s H E hr => (ssv_cons (sv_if (Wv.tv (wv_or (tv_not (tv_val (ev_call (ok_is_row T) (hr.mono (by decide)) (by rfl) T.g_is_row T.F_is_row.kp T.b_is_row (av_cons (vVar 0) av_nil)))) (wv_or1 (tv_not (tv_chain op_le op_le bin_le bin_le ev_int (ev_callB L2.call_len cok_len (by rfl) T.m_len boot_len (av_cons (vPk 0) av_nil)) (ev_gc (v := .int 30) (by rfl) T.k_MOST_PEOPLE (fun F => .int _))))))) (ssv_one sv_never) ssv_nil) (ssv_cons (sv_expr (ev_call (ok_check_times T) (hr.mono (by decide)) (by rfl) T.g_check_times T.F_check_times.kp T.b_check_times (av_cons (vVar 0) (av_cons (ev_callB L2.call_len cok_len (by rfl) T.m_len boot_len (av_cons (vPk 0) av_nil)) av_nil)))) (ssv_cons (sv_if (tv_val (ev_callB (cr_any rfl) cok_any (by rfl) T.m_any boot_any (av_cons (ev_lc (own := [("one", 2), ("other", 3)]) rfl sc_check_line.nd (iv_zip2 rfl (by rfl) T.m_zip (av_cons (vVar 0) (av_cons (ev_sl rfl (vPk 0) (ov_some ev_int) ov_none) av_nil))) (blkOk_by (by rfl)) (by decide) (by decide) (fun s H C cl fp => (gv_tup (n := 2) rfl rfl (gsv_cons (gv_name (i := 2) sc_check_line.nd rfl (by first | exact .inl rfl | exact .inr rfl)) (gsv_cons (gv_name (i := 3) sc_check_line.nd rfl (by first | exact .inl rfl | exact .inr rfl)) gsv_nil)) (gs_lenS (gs_lenS gs_len0)))) (fun s H C cl fp => tsv_nil) (fun s H C cl fp => (ev_cmp op_gt bin_gt (vPk 2) (vPk 3) (nomark _))) (s0 := s) (H0 := H)) av_nil))) (ssv_one sv_never) ssv_nil) (ssv_one (sv_expr (ev_call (ok_check_times T) (hr.mono (by decide)) (by rfl) T.g_check_times T.F_check_times.kp T.b_check_times (av_cons (vVar 1) (av_cons (ev_callB L2.call_len cok_len (by rfl) T.m_len boot_len (av_cons (vPk 0) av_nil)) av_nil)))))))))
theorem ok_leaves (T : Tx K mg) : FnP P w K mg base (RR T) 5 T.f_leaves T.d_leaves ["comes", "serves"] F_leaves :=
  fn_pl' (pr := [0, 1]) T.F_leaves sc_leaves rfl (by decide) (by decide) (fun cdv A outer s H E hr => (ssv_cons (sv_expr (ev_call (ok_check_line T) (hr.mono (by decide)) (by rfl) T.g_check_line T.F_check_line.kp T.b_check_line (av_cons (vVar 0) (av_cons (vVar 1) av_nil)))) (ssv_cons (sv_set (i := 2) sc_leaves.nd rfl (by first | exact .inl rfl | exact .inr rfl) (by decide) (ev_lst av_nil)) (ssv_cons (sv_for PassesOwn.never rfl (iv_zip2 rfl (by rfl) T.m_zip (av_cons (vVar 0) (av_cons (vVar 1) av_nil))) (gv_tup (n := 2) rfl rfl (gsv_cons (gv_name (i := 3) sc_leaves.nd rfl (by first | exact .inl rfl | exact .inr rfl)) (gsv_cons (gv_name (i := 4) sc_leaves.nd rfl (by first | exact .inl rfl | exact .inr rfl)) gsv_nil)) (gs_lenS (gs_lenS gs_len0))) (ssv_cons (sv_set (i := 5) sc_leaves.nd rfl (by first | exact .inl rfl | exact .inr rfl) (by decide) (ev_if (tv_cmp (op_neD (hu64 hr)) bin_ne (vPk 2) (ev_lst av_nil) (nomark _)) (ev_callB ((callr_max rfl).or (cr_maxT rfl)) cok_max2 (by rfl) T.m_max boot_max (av_cons (vPk 3) (av_cons (ev_ix rfl (vPk 2) (ev_neg ev_int)) av_nil))) (vVar 3))) (ssv_one (sv_expr (ev_append (i := 2) rfl (by first | exact .inl rfl | exact .inr (.inl rfl) | exact .inr (.inr rfl)) (ev_add rfl (vPk 5) (vPk 4)))))) (by decide)) (ssv_one (sv_ret (ev_callTy call_tuple_of cok_tuple (by rfl) T.m_tuple boot_tuple (av_cons (vPk 2) av_nil))))))))
theorem ok_waits (T : Tx K mg) : FnP P w K mg base (RR T) 6 T.f_waits T.d_waits ["comes", "serves"] F_waits :=
  fn_pl' (pr := [0, 1]) T.F_waits sc_waits rfl (by decide) (by decide) (fun cdv A outer s H E hr => (ssv_one (sv_ret (ev_callTy call_tuple_of cok_tuple (by rfl) T.m_tuple boot_tuple (av_cons (ev_lc (own := [("come", 2), ("serve", 3), ("leave", 4)]) rfl sc_waits.nd (iv_zip3 rfl (by rfl) T.m_zip (av_cons (vVar 0) (av_cons (vVar 1) (av_cons (ev_call (ok_leaves T) (hr.mono (by decide)) (by rfl) T.g_leaves T.F_leaves.kp T.b_leaves (av_cons (vVar 0) (av_cons (vVar 1) av_nil))) av_nil)))) (blkOk_by (by rfl)) (by decide) (by decide) (fun s H C cl fp => (gv_tup (n := 3) rfl rfl (gsv_cons (gv_name (i := 2) sc_waits.nd rfl (by first | exact .inl rfl | exact .inr rfl)) (gsv_cons (gv_name (i := 3) sc_waits.nd rfl (by first | exact .inl rfl | exact .inr rfl)) (gsv_cons (gv_name (i := 4) sc_waits.nd rfl (by first | exact .inl rfl | exact .inr rfl)) gsv_nil))) (gs_lenS (gs_lenS (gs_lenS gs_len0))))) (fun s H C cl fp => tsv_nil) (fun s H C cl fp => (ev_sub (ev_sub (vPk 4) (vPk 3)) (vPk 2))) (s0 := s) (H0 := H)) av_nil)))))
theorem ok_common_divisor (T : Tx K mg) : FnP P w K mg base (RR T) 1 T.f_common_divisor T.d_common_divisor ["one", "other"] F_common_divisor :=
  fn_pl' (pr := []) T.F_common_divisor sc_common_divisor rfl (by decide) (by decide) (fun cdv A outer s H E hr => (ssv_cons (sv_while PassesOwn.never (tv_cmp op_gt bin_gt (vPk 1) ev_int (nomark _)) (ssv_one (sv_par (i := 0) (j := 1) rfl sc_common_divisor.nd rfl rfl (by decide) rfl rfl (by decide) (by decide) (av_cons (vVar 1) (av_cons (ev_mod (ev_callTy call_int1 cok_int (by rfl) T.m_int boot_int (av_cons (vPk 0) av_nil)) (vPk 1)) av_nil)) (by rfl)))) (ssv_one (sv_ret (vVar 0)))))
theorem ok_fraction (T : Tx K mg) : FnP P w K mg base (RR T) 2 T.f_fraction T.d_fraction ["top", "bottom"] F_fraction :=
  fn_pl' (pr := []) T.F_fraction sc_fraction rfl (by decide) (by decide) (fun cdv A outer s H E hr => (ssv_cons (sv_if (tv_cmp op_lt bin_lt (vPk 1) ev_int (nomark _)) (ssv_one (sv_par (i := 0) (j := 1) rfl sc_fraction.nd rfl rfl (by decide) rfl rfl (by decide) (by decide) (av_cons (ev_neg (vPk 0)) (av_cons (ev_neg (vPk 1)) av_nil)) (by rfl))) ssv_nil) (ssv_cons (sv_set (i := 2) sc_fraction.nd rfl (by first | exact .inl rfl | exact .inr rfl) (by decide) (ev_call (ok_common_divisor T) (hr.mono (by decide)) (by rfl) T.g_common_divisor T.F_common_divisor.kp T.b_common_divisor (av_cons (ev_callB call_abs cok_abs (by rfl) T.m_abs boot_abs (av_cons (vPk 0) av_nil)) (av_cons (vVar 1) av_nil)))) (ssv_one (sv_ret (ev_tup (av_cons (ev_fdiv (vPk 0) (vPk 2)) (av_cons (ev_fdiv (vPk 1) (vPk 2)) av_nil))))))))
theorem ok_mean_wait (T : Tx K mg) : FnP P w K mg base (RR T) 7 T.f_mean_wait T.d_mean_wait ["comes", "serves"] F_mean_wait :=
  fn_pl' (pr := [0, 1]) T.F_mean_wait sc_mean_wait rfl (by decide) (by decide) (fun cdv A outer s H E hr => (ssv_cons (sv_set (i := 2) sc_mean_wait.nd rfl (by first | exact .inl rfl | exact .inr rfl) (by decide) (ev_call (ok_waits T) (hr.mono (by decide)) (by rfl) T.g_waits T.F_waits.kp T.b_waits (av_cons (vVar 0) (av_cons (vVar 1) av_nil)))) (ssv_one (sv_ret (ev_call (ok_fraction T) (hr.mono (by decide)) (by rfl) T.g_fraction T.F_fraction.kp T.b_fraction (av_cons (ev_callB ((cr_sum rfl).or (cr_sumT rfl)) cok_sum2 (by rfl) T.m_sum boot_sum (av_cons (vPk 2) av_nil)) (av_cons (ev_callB L2.call_len cok_len (by rfl) T.m_len boot_len (av_cons (vPk 2) av_nil)) av_nil)))))))
theorem ok__law_fraction (T : Tx K mg) : FnP P w K mg base (RR T) 1 T.f__law_fraction T.d__law_fraction ["top", "bottom"] F__law_fraction :=
  fn_pl' (pr := [0, 1]) T.F__law_fraction sc__law_fraction rfl (by decide) (by decide) (fun cdv A outer s H E hr => (ssv_cons (sv_par (i := 2) (j := 3) rfl sc__law_fraction.nd rfl rfl (by decide) rfl rfl (by decide) (by decide) (av_cons (ev_callB call_abs cok_abs (by rfl) T.m_abs boot_abs (av_cons (vPk 0) av_nil)) (av_cons (vVar 1) av_nil)) (by rfl)) (ssv_cons (sv_while PassesOwn.never (tv_cmp op_gt bin_gt (vPk 3) ev_int (nomark _)) (ssv_one (sv_par (i := 2) (j := 3) rfl sc__law_fraction.nd rfl rfl (by decide) rfl rfl (by decide) (by decide) (av_cons (vVar 3) (av_cons (ev_mod (ev_callTy call_int1 cok_int (by rfl) T.m_int boot_int (av_cons (vPk 2) av_nil)) (vPk 3)) av_nil)) (by rfl)))) (ssv_one (sv_ret (ev_if (tv_cmp op_gt bin_gt (vPk 2) ev_int (nomark _)) (ev_tup (av_cons (ev_fdiv (vPk 0) (vPk 2)) (av_cons (ev_fdiv (vPk 1) (vPk 2)) av_nil))) (ev_tup (av_cons ev_int (av_cons ev_int av_nil)))))))))
theorem ok_pauses (T : Tx K mg) : FnP P w K mg base (RR T) 6 T.f_pauses T.d_pauses ["comes", "serves"] F_pauses :=
  fn_pl' (pr := [0, 1]) T.F_pauses sc_pauses rfl (by decide) (by decide) (fun cdv A outer s H E hr => (ssv_cons (sv_par (i := 2) (j := 3) rfl sc_pauses.nd rfl rfl (by decide) rfl rfl (by decide) (by decide) (av_cons (ev_call (ok_leaves T) (hr.mono (by decide)) (by rfl) T.g_leaves T.F_leaves.kp T.b_leaves (av_cons (vVar 0) (av_cons (vVar 1) av_nil))) (av_cons (ev_lst av_nil) av_nil)) (by rfl)) (ssv_cons (sv_for PassesOwn.never rfl (iv_zip2 rfl (by rfl) T.m_zip (av_cons (vVar 2) (av_cons (ev_sl rfl (vPk 0) (ov_some ev_int) ov_none) av_nil))) (gv_tup (n := 2) rfl rfl (gsv_cons (gv_name (i := 4) sc_pauses.nd rfl (by first | exact .inl rfl | exact .inr rfl)) (gsv_cons (gv_name (i := 5) sc_pauses.nd rfl (by first | exact .inl rfl | exact .inr rfl)) gsv_nil)) (gs_lenS (gs_lenS gs_len0))) (ssv_one (sv_if (tv_cmp op_gt bin_gt (vPk 5) (vPk 4) (nomark _)) (ssv_one (sv_expr (ev_append (i := 3) rfl (by first | exact .inl rfl | exact .inr (.inl rfl) | exact .inr (.inr rfl)) (ev_tup (av_cons (vVar 4) (av_cons (vVar 5) av_nil)))))) ssv_nil)) (by decide)) (ssv_one (sv_ret (vMv 3))))))
theorem ok_room (T : Tx K mg) : FnP P w K mg base (RR T) 6 T.f_room T.d_room ["comes", "serves"] F_room :=
  fn_pl' (pr := [0, 1]) T.F_room sc_room rfl (by decide) (by decide) (fun cdv A outer s H E hr => (ssv_cons (sv_par (i := 2) (j := 3) rfl sc_room.nd rfl rfl (by decide) rfl rfl (by decide) (by decide) (av_cons (ev_call (ok_leaves T) (hr.mono (by decide)) (by rfl) T.g_leaves T.F_leaves.kp T.b_leaves (av_cons (vVar 0) (av_cons (vVar 1) av_nil))) (av_cons ev_int av_nil)) (by rfl)) (ssv_cons (sv_for PassesOwn.never rfl (iv_seq rfl (vVar 0)) (gv_name (i := 4) sc_room.nd rfl (by first | exact .inl rfl | exact .inr rfl)) (ssv_cons (sv_set (i := 5) sc_room.nd rfl (by first | exact .inl rfl | exact .inr rfl) (by decide) (ev_callB L2.call_len cok_len (by rfl) T.m_len boot_len (av_cons (ev_lc (own := [("come", 6), ("leave", 7)]) rfl sc_room.nd (iv_zip2 rfl (by rfl) T.m_zip (av_cons (vVar 0) (av_cons (vVar 2) av_nil))) (blkOk_by (by rfl)) (by decide) (by decide) (fun s H C cl fp => (gv_tup (n := 2) rfl rfl (gsv_cons (gv_name (i := 6) sc_room.nd rfl (by first | exact .inl rfl | exact .inr rfl)) (gsv_cons (gv_name (i := 7) sc_room.nd rfl (by first | exact .inl rfl | exact .inr rfl)) gsv_nil)) (gs_lenS (gs_lenS gs_len0)))) (fun s H C cl fp => (tsv_one (tv_chain op_le op_lt bin_le bin_lt (vPk 6) (vPk 4) (vPk 7)))) (fun s H C cl fp => ev_int) (s0 := s) (H0 := H)) av_nil))) (ssv_one (sv_set (i := 3) sc_room.nd rfl (by first | exact .inl rfl | exact .inr rfl) (by decide) (ev_callB ((callr_max rfl).or (cr_maxT rfl)) cok_max2 (by rfl) T.m_max boot_max (av_cons (vPk 3) (av_cons (vPk 5) av_nil)))))) (by decide)) (ssv_one (sv_ret (vVar 3))))))
theorem ok_reason (T : Tx K mg) : FnP P w K mg base (RR T) 6 T.f_reason T.d_reason ["comes", "serves", "person"] F_reason :=
  fn_pl' (pr := [0, 1, 2]) T.F_reason sc_reason rfl (by decide) (by decide) (fun cdv A outer s H E hr => (ssv_cons (sv_expr (ev_call (ok_check_line T) (hr.mono (by decide)) (by rfl) T.g_check_line T.F_check_line.kp T.b_check_line (av_cons (vVar 0) (av_cons (vVar 1) av_nil)))) (ssv_cons (sv_if (tv_not (tv_val (ev_call (ok_is_within T) (hr.mono (by decide)) (by rfl) T.g_is_within T.F_is_within.kp T.b_is_within (av_cons (vVar 2) (av_cons ev_int (av_cons (ev_sub (ev_callB L2.call_len cok_len (by rfl) T.m_len boot_len (av_cons (vPk 0) av_nil)) ev_int) av_nil)))))) (ssv_one sv_never) ssv_nil) (ssv_cons (sv_set (i := 3) sc_reason.nd rfl (by first | exact .inl rfl | exact .inr rfl) (by decide) (ev_ix rfl (ev_call (ok_leaves T) (hr.mono (by decide)) (by rfl) T.g_leaves T.F_leaves.kp T.b_leaves (av_cons (vVar 0) (av_cons (vVar 1) av_nil))) (vPk 2))) (ssv_cons (sv_for PassesOwn.never rfl (iv_range1 (by rfl) T.m_range (ev_add rfl (vPk 2) ev_int)) (gv_name (i := 4) sc_reason.nd rfl (by first | exact .inl rfl | exact .inr rfl)) (ssv_one (sv_if (tv_cmp (op_eqD (hu64 hr)) bin_eq (ev_add rfl (ev_ix rfl (vPk 0) (vPk 4)) (ev_callB ((cr_sum rfl).or (cr_sumT rfl)) cok_sum2 (by rfl) T.m_sum boot_sum (av_cons (ev_sl rfl (vPk 1) (ov_some (vPk 4)) (ov_some (ev_add rfl (vPk 2) ev_int))) av_nil))) (vPk 3) (nomark _)) (ssv_one (sv_ret (vVar 4))) ssv_nil)) (by decide)) (ssv_one (sv_ret ev_non)))))))
theorem ok_is_reason (T : Tx K mg) : FnP P w K mg base (RR T) 3 T.f_is_reason T.d_is_reason ["comes", "serves", "person", "thing"] F_is_reason :=
  fn_pl' (pr := [0, 1, 2, 3]) T.F_is_reason sc_is_reason rfl (by decide) (by decide) (fun cdv A outer s H E hr => (ssv_cons (sv_if (tv_not (tv_val (ev_call (ok_is_within T) (hr.mono (by decide)) (by rfl) T.g_is_within T.F_is_within.kp T.b_is_within (av_cons (vVar 3) (av_cons ev_int (av_cons (vVar 2) av_nil)))))) (ssv_one (sv_ret ev_bl)) ssv_nil) (ssv_cons (sv_setLc (own := [("first", 5)]) rfl sc_is_reason.nd (i := 4) rfl rfl (by decide) (by rfl) (iv_range1 (by rfl) T.m_range (ev_add rfl (vPk 2) ev_int)) (blkOk_by (by rfl)) (by decide) (by decide) (fun s H C cl fp => (gv_name (i := 5) sc_is_reason.nd rfl (by first | exact .inl rfl | exact .inr rfl))) (fun s H C cl fp => tsv_nil) (fun s H C cl fp => (ev_add rfl (ev_ix rfl (vPk 0) (vPk 5)) (ev_callB ((cr_sum rfl).or (cr_sumT rfl)) cok_sum2 (by rfl) T.m_sum boot_sum (av_cons (ev_sl rfl (vPk 1) (ov_some (vPk 5)) (ov_some (ev_add rfl (vPk 2) ev_int))) av_nil)))) (s0 := s) (H0 := H)) (ssv_one (sv_ret (ev_cmp (op_eqD (hu64 hr)) bin_eq (ev_ix rfl (vPk 4) (vPk 3)) (ev_callB ((callr_max rfl).or (cr_maxT rfl)) cok_max2 (by rfl) T.m_max boot_max (av_cons (vPk 4) av_nil)) (nomark _)))))))
theorem ok_law (T : Tx K mg) : FnP P w K mg base (RR T) 10 T.f_law T.d_law ["script"] F_law :=
  fn_pl' (pr := [0]) T.F_law sc_law rfl (by decide) (by decide) (fun cdv A outer s H E hr => (ssv_cons (sv_set (i := 1) sc_law.nd rfl (by first | exact .inl rfl | exact .inr rfl) (by decide) (ev_call (ok__law_hand T) (hr.mono (by decide)) (by rfl) T.g__law_hand T.F__law_hand.kp T.b__law_hand (av_cons (vVar 0) av_nil))) (ssv_cons (sv_for PassesOwn.never rfl (iv_range1 (by rfl) T.m_range ev_int) (gv_name (i := 2) sc_law.nd rfl (by first | exact .inl rfl | exact .inr rfl)) (ssv_cons (sv_set (i := 3) sc_law.nd rfl (by first | exact .inl rfl | exact .inr rfl) (by decide) (ev_add rfl ev_int (ev_call (ok__law_draw T) (hr.mono (by decide)) (by rfl) T.g__law_draw T.F__law_draw.kp T.b__law_draw (av_cons (vBor 1) (av_cons ev_int av_nil))))) (ssv_cons (sv_parC (i := 4) (j := 5) rfl sc_law.nd rfl rfl (by first | exact .inl rfl | exact .inr rfl) (by first | exact .inl rfl | exact .inr rfl) (by decide) (by decide) (av_cons (ev_lst av_nil) (av_cons ev_int av_nil))) (ssv_cons (sv_for PassesOwn.never rfl (iv_range1 (by rfl) T.m_range (vPk 3)) (gv_name (i := 6) sc_law.nd rfl (by first | exact .inl rfl | exact .inr rfl)) (ssv_cons (sv_set (i := 5) sc_law.nd rfl (by first | exact .inl rfl | exact .inr rfl) (by decide) (ev_add rfl (vPk 5) (ev_call (ok__law_draw T) (hr.mono (by decide)) (by rfl) T.g__law_draw T.F__law_draw.kp T.b__law_draw (av_cons (vBor 1) (av_cons ev_int av_nil))))) (ssv_one (sv_expr (ev_append (i := 4) rfl (by first | exact .inl rfl | exact .inr (.inl rfl) | exact .inr (.inr rfl)) (vVar 5))))) (by decide)) (ssv_cons (sv_set (i := 7) sc_law.nd rfl (by first | exact .inl rfl | exact .inr rfl) (by decide) (ev_lc (own := [("at", 6)]) rfl sc_law.nd (iv_range1 (by rfl) T.m_range (vPk 3)) (blkOk_by (by rfl)) (by decide) (by decide) (fun s H C cl fp => (gv_name (i := 6) sc_law.nd rfl (by first | exact .inl rfl | exact .inr rfl))) (fun s H C cl fp => tsv_nil) (fun s H C cl fp => (ev_add rfl ev_int (ev_call (ok__law_draw T) (hr.mono (by decide)) (by rfl) T.g__law_draw T.F__law_draw.kp T.b__law_draw (av_cons (vBor 1) (av_cons ev_int av_nil))))) (s0 := s) (H0 := H))) (ssv_cons (sv_par (i := 8) (j := 9) rfl sc_law.nd rfl rfl (by decide) rfl rfl (by decide) (by decide) (av_cons (ev_lst av_nil) (av_cons ev_int av_nil)) (by rfl)) (ssv_cons (sv_for PassesOwn.never rfl (iv_zip2 rfl (by rfl) T.m_zip (av_cons (vVar 4) (av_cons (vVar 7) av_nil))) (gv_tup (n := 2) rfl rfl (gsv_cons (gv_name (i := 10) sc_law.nd rfl (by first | exact .inl rfl | exact .inr rfl)) (gsv_cons (gv_name (i := 11) sc_law.nd rfl (by first | exact .inl rfl | exact .inr rfl)) gsv_nil)) (gs_lenS (gs_lenS gs_len0))) (ssv_cons (sv_set (i := 9) sc_law.nd rfl (by first | exact .inl rfl | exact .inr rfl) (by decide) (ev_add rfl (ev_callB ((callr_max rfl).or (cr_maxT rfl)) cok_max2 (by rfl) T.m_max boot_max (av_cons (vPk 9) (av_cons (vPk 10) av_nil))) (vPk 11))) (ssv_one (sv_expr (ev_append (i := 8) rfl (by first | exact .inl rfl | exact .inr (.inl rfl) | exact .inr (.inr rfl)) (vVar 9))))) (by decide)) (ssv_cons (sv_if (tv_not (tv_val (ev_call (ok__law_is T) (hr.mono (by decide)) (by rfl) T.g__law_is T.F__law_is.kp T.b__law_is (av_cons (ev_call (ok_leaves T) (hr.mono (by decide)) (by rfl) T.g_leaves T.F_leaves.kp T.b_leaves (av_cons (vVar 4) (av_cons (ev_callTy call_tuple_of cok_tuple (by rfl) T.m_tuple boot_tuple (av_cons (vPk 7) av_nil)) av_nil))) (av_cons (ev_callTy call_tuple_of cok_tuple (by rfl) T.m_tuple boot_tuple (av_cons (vPk 8) av_nil)) av_nil))))) (ssv_one (sv_ret ev_bl)) ssv_nil) (ssv_cons (sv_setLc (own := [("come", 10), ("serve", 11), ("leave", 21)]) rfl sc_law.nd (i := 12) rfl rfl (by decide) (by rfl) (iv_zip3 rfl (by rfl) T.m_zip (av_cons (vVar 4) (av_cons (vVar 7) (av_cons (vVar 8) av_nil)))) (blkOk_by (by rfl)) (by decide) (by decide) (fun s H C cl fp => (gv_tup (n := 3) rfl rfl (gsv_cons (gv_name (i := 10) sc_law.nd rfl (by first | exact .inl rfl | exact .inr rfl)) (gsv_cons (gv_name (i := 11) sc_law.nd rfl (by first | exact .inl rfl | exact .inr rfl)) (gsv_cons (gv_name (i := 21) sc_law.nd rfl (by first | exact .inl rfl | exact .inr rfl)) gsv_nil))) (gs_lenS (gs_lenS (gs_lenS gs_len0))))) (fun s H C cl fp => tsv_nil) (fun s H C cl fp => (ev_sub (ev_sub (vPk 21) (vPk 11)) (vPk 10))) (s0 := s) (H0 := H)) (ssv_cons (sv_if (tv_not (tv_val (ev_call (ok__law_is T) (hr.mono (by decide)) (by rfl) T.g__law_is T.F__law_is.kp T.b__law_is (av_cons (ev_call (ok_waits T) (hr.mono (by decide)) (by rfl) T.g_waits T.F_waits.kp T.b_waits (av_cons (vVar 4) (av_cons (vVar 7) av_nil))) (av_cons (ev_callTy call_tuple_of cok_tuple (by rfl) T.m_tuple boot_tuple (av_cons (vPk 12) av_nil)) av_nil))))) (ssv_one (sv_ret ev_bl)) ssv_nil) (ssv_cons (sv_if (tv_not (tv_val (ev_call (ok__law_is T) (hr.mono (by decide)) (by rfl) T.g__law_is T.F__law_is.kp T.b__law_is (av_cons (ev_call (ok_mean_wait T) (hr.mono (by decide)) (by rfl) T.g_mean_wait T.F_mean_wait.kp T.b_mean_wait (av_cons (vVar 4) (av_cons (vVar 7) av_nil))) (av_cons (ev_call (ok__law_fraction T) (hr.mono (by decide)) (by rfl) T.g__law_fraction T.F__law_fraction.kp T.b__law_fraction (av_cons (ev_callB ((cr_sum rfl).or (cr_sumT rfl)) cok_sum2 (by rfl) T.m_sum boot_sum (av_cons (vPk 12) av_nil)) (av_cons (vVar 3) av_nil))) av_nil))))) (ssv_one (sv_ret ev_bl)) ssv_nil) (ssv_cons (sv_setLc (own := [("leave", 21), ("come", 10)]) rfl sc_law.nd (i := 13) rfl rfl (by decide) (by rfl) (iv_zip2 rfl (by rfl) T.m_zip (av_cons (vVar 8) (av_cons (ev_sl rfl (vPk 4) (ov_some ev_int) ov_none) av_nil))) (blkOk_by (by rfl)) (by decide) (by decide) (fun s H C cl fp => (gv_tup (n := 2) rfl rfl (gsv_cons (gv_name (i := 21) sc_law.nd rfl (by first | exact .inl rfl | exact .inr rfl)) (gsv_cons (gv_name (i := 10) sc_law.nd rfl (by first | exact .inl rfl | exact .inr rfl)) gsv_nil)) (gs_lenS (gs_lenS gs_len0)))) (fun s H C cl fp => (tsv_one (tv_cmp op_gt bin_gt (vPk 10) (vPk 21) (nomark _)))) (fun s H C cl fp => (ev_tup (av_cons (vVar 21) (av_cons (vVar 10) av_nil)))) (s0 := s) (H0 := H)) (ssv_cons (sv_if (tv_not (tv_val (ev_call (ok__law_is T) (hr.mono (by decide)) (by rfl) T.g__law_is T.F__law_is.kp T.b__law_is (av_cons (ev_call (ok_pauses T) (hr.mono (by decide)) (by rfl) T.g_pauses T.F_pauses.kp T.b_pauses (av_cons (vVar 4) (av_cons (vVar 7) av_nil))) (av_cons (vVar 13) av_nil))))) (ssv_one (sv_ret ev_bl)) ssv_nil) (ssv_cons (sv_set (i := 14) sc_law.nd rfl (by first | exact .inl rfl | exact .inr rfl) (by decide) (ev_lst av_nil)) (ssv_cons (sv_for PassesOwn.never rfl (iv_range1 (by rfl) T.m_range (ev_add rfl (ev_ix rfl (vPk 8) (ev_neg ev_int)) ev_int)) (gv_name (i := 15) sc_law.nd rfl (by first | exact .inl rfl | exact .inr rfl)) (ssv_one (sv_expr (ev_append (i := 14) rfl (by first | exact .inl rfl | exact .inr (.inl rfl) | exact .inr (.inr rfl)) (ev_callB L2.call_len cok_len (by rfl) T.m_len boot_len (av_cons (ev_lc (own := [("come", 10), ("leave", 21)]) rfl sc_law.nd (iv_zip2 rfl (by rfl) T.m_zip (av_cons (vVar 4) (av_cons (vVar 8) av_nil))) (blkOk_by (by rfl)) (by decide) (by decide) (fun s H C cl fp => (gv_tup (n := 2) rfl rfl (gsv_cons (gv_name (i := 10) sc_law.nd rfl (by first | exact .inl rfl | exact .inr rfl)) (gsv_cons (gv_name (i := 21) sc_law.nd rfl (by first | exact .inl rfl | exact .inr rfl)) gsv_nil)) (gs_lenS (gs_lenS gs_len0)))) (fun s H C cl fp => (tsv_one (tv_chain op_le op_lt bin_le bin_lt (vPk 10) (vPk 15) (vPk 21)))) (fun s H C cl fp => ev_int) (s0 := s) (H0 := H)) av_nil))))) (by decide)) (ssv_cons (sv_if (tv_not (tv_val (ev_call (ok__law_is T) (hr.mono (by decide)) (by rfl) T.g__law_is T.F__law_is.kp T.b__law_is (av_cons (ev_call (ok_room T) (hr.mono (by decide)) (by rfl) T.g_room T.F_room.kp T.b_room (av_cons (vVar 4) (av_cons (vVar 7) av_nil))) (av_cons (ev_callB ((callr_max rfl).or (cr_maxT rfl)) cok_max2 (by rfl) T.m_max boot_max (av_cons (vPk 14) av_nil)) av_nil))))) (ssv_one (sv_ret ev_bl)) ssv_nil) (ssv_cons (sv_set (i := 16) sc_law.nd rfl (by first | exact .inl rfl | exact .inr rfl) (by decide) (ev_call (ok__law_draw T) (hr.mono (by decide)) (by rfl) T.g__law_draw T.F__law_draw.kp T.b__law_draw (av_cons (vBor 1) (av_cons (vVar 3) av_nil)))) (ssv_cons (sv_setLc (own := [("first", 18)]) rfl sc_law.nd (i := 17) rfl rfl (by decide) (by rfl) (iv_range1 (by rfl) T.m_range (ev_add rfl (vPk 16) ev_int)) (blkOk_by (by rfl)) (by decide) (by decide) (fun s H C cl fp => (gv_name (i := 18) sc_law.nd rfl (by first | exact .inl rfl | exact .inr rfl))) (fun s H C cl fp => tsv_nil) (fun s H C cl fp => (ev_add rfl (ev_ix rfl (vPk 4) (vPk 18)) (ev_callB ((cr_sum rfl).or (cr_sumT rfl)) cok_sum2 (by rfl) T.m_sum boot_sum (av_cons (ev_sl rfl (vPk 7) (ov_some (vPk 18)) (ov_some (ev_add rfl (vPk 16) ev_int))) av_nil)))) (s0 := s) (H0 := H)) (ssv_cons (sv_if (Wv.tv (wv_or (tv_cmp (op_neD (hu64 hr)) bin_ne (ev_callB ((callr_max rfl).or (cr_maxT rfl)) cok_max2 (by rfl) T.m_max boot_max (av_cons (vPk 17) av_nil)) (ev_ix rfl (vPk 8) (vPk 16)) (nomark _)) (wv_or1 (tv_not (tv_val (ev_call (ok__law_is T) (hr.mono (by decide)) (by rfl) T.g__law_is T.F__law_is.kp T.b__law_is (av_cons (ev_call (ok_reason T) (hr.mono (by decide)) (by rfl) T.g_reason T.F_reason.kp T.b_reason (av_cons (vVar 4) (av_cons (vVar 7) (av_cons (vVar 16) av_nil)))) (av_cons (ev_index (hu65 hr) rfl (vPk 17) (ev_callB ((callr_max rfl).or (cr_maxT rfl)) cok_max2 (by rfl) T.m_max boot_max (av_cons (vPk 17) av_nil))) av_nil)))))))) (ssv_one (sv_ret ev_bl)) ssv_nil) (ssv_cons (sv_for PassesOwn.never rfl (iv_seq rfl (ev_add rfl (ev_listRg2 rfl (by rfl) T.m_list (by rfl) T.m_range (ev_neg ev_int) (ev_add rfl (vPk 3) ev_int)) (ev_lst (av_cons ev_non (av_cons ev_bl (av_cons ev_str av_nil)))))) (gv_name (i := 18) sc_law.nd rfl (by first | exact .inl rfl | exact .inr rfl)) (ssv_cons (sv_set (i := 19) sc_law.nd rfl (by first | exact .inl rfl | exact .inr rfl) (by decide) (ev_and (ev_callB (call_isi.or (call_isiT.or call_isiK)) cok_isi (by rfl) T.m_isinstance boot_isinstance (av_cons (vPk 18) (av_cons (vTy .int T.m_int boot_int) av_nil))) (ev_and (ev_not (ev_callB (call_isi.or (call_isiT.or call_isiK)) cok_isi (by rfl) T.m_isinstance boot_isinstance (av_cons (vPk 18) (av_cons (vTy .bool T.m_bool boot_bool) av_nil)))) (ev_one (ev_chain op_le op_le bin_le bin_le ev_int (vPk 18) (vPk 16)))))) (ssv_one (sv_if (tv_not (tv_val (ev_call (ok__law_is T) (hr.mono (by decide)) (by rfl) T.g__law_is T.F__law_is.kp T.b__law_is (av_cons (ev_call (ok_is_reason T) (hr.mono (by decide)) (by rfl) T.g_is_reason T.F_is_reason.kp T.b_is_reason (av_cons (vVar 4) (av_cons (vVar 7) (av_cons (vVar 16) (av_cons (vVar 18) av_nil))))) (av_cons (ev_and (vVar 19) (ev_one (ev_cmp (op_eqD (hu64 hr)) bin_eq (ev_ix rfl (vPk 17) (vPk 18)) (ev_callB ((callr_max rfl).or (cr_maxT rfl)) cok_max2 (by rfl) T.m_max boot_max (av_cons (vPk 17) av_nil)) (nomark _)))) av_nil))))) (ssv_one (sv_ret ev_bl)) ssv_nil))) (by decide)) (ssv_cons (sv_set (i := 20) sc_law.nd rfl (by first | exact .inl rfl | exact .inr rfl) (by decide) (ev_add rfl (ev_add rfl (ev_sl rfl (vPk 7) ov_none (ov_some (vPk 16))) (ev_lst (av_cons (ev_sub (ev_ix rfl (vPk 7) (vPk 16)) ev_int) av_nil))) (ev_sl rfl (vPk 7) (ov_some (ev_add rfl (vPk 16) ev_int)) ov_none))) (ssv_cons (sv_if (tv_val (ev_callB (cr_any rfl) cok_any (by rfl) T.m_any boot_any (av_cons (ev_lc (own := [("a", 22), ("b", 23)]) rfl sc_law.nd (iv_zip2 rfl (by rfl) T.m_zip (av_cons (ev_call (ok_leaves T) (hr.mono (by decide)) (by rfl) T.g_leaves T.F_leaves.kp T.b_leaves (av_cons (vVar 4) (av_cons (vVar 20) av_nil))) (av_cons (vVar 8) av_nil))) (blkOk_by (by rfl)) (by decide) (by decide) (fun s H C cl fp => (gv_tup (n := 2) rfl rfl (gsv_cons (gv_name (i := 22) sc_law.nd rfl (by first | exact .inl rfl | exact .inr rfl)) (gsv_cons (gv_name (i := 23) sc_law.nd rfl (by first | exact .inl rfl | exact .inr rfl)) gsv_nil)) (gs_lenS (gs_lenS gs_len0)))) (fun s H C cl fp => tsv_nil) (fun s H C cl fp => (ev_cmp op_gt bin_gt (vPk 22) (vPk 23) (nomark _))) (s0 := s) (H0 := H)) av_nil))) (ssv_one (sv_ret ev_bl)) ssv_nil) (ssv_one (sv_if (tv_val (ev_callB (cr_any rfl) cok_any (by rfl) T.m_any boot_any (av_cons (ev_lc (own := [("a", 22), ("b", 23)]) rfl sc_law.nd (iv_zip2 rfl (by rfl) T.m_zip (av_cons (ev_call (ok_leaves T) (hr.mono (by decide)) (by rfl) T.g_leaves T.F_leaves.kp T.b_leaves (av_cons (ev_lc (own := [("come", 10)]) rfl sc_law.nd (iv_seq rfl (vVar 4)) (blkOk_by (by rfl)) (by decide) (by decide) (fun s H C cl fp => (gv_name (i := 10) sc_law.nd rfl (by first | exact .inl rfl | exact .inr rfl))) (fun s H C cl fp => tsv_nil) (fun s H C cl fp => (ev_callB ((callr_max rfl).or (cr_maxT rfl)) cok_max2 (by rfl) T.m_max boot_max (av_cons ev_int (av_cons (ev_sub (vPk 10) ev_int) av_nil)))) (s0 := s) (H0 := H)) (av_cons (vVar 7) av_nil))) (av_cons (vVar 8) av_nil))) (blkOk_by (by rfl)) (by decide) (by decide) (fun s H C cl fp => (gv_tup (n := 2) rfl rfl (gsv_cons (gv_name (i := 22) sc_law.nd rfl (by first | exact .inl rfl | exact .inr rfl)) (gsv_cons (gv_name (i := 23) sc_law.nd rfl (by first | exact .inl rfl | exact .inr rfl)) gsv_nil)) (gs_lenS (gs_lenS gs_len0)))) (fun s H C cl fp => tsv_nil) (fun s H C cl fp => (ev_cmp op_gt bin_gt (vPk 22) (vPk 23) (nomark _))) (s0 := s) (H0 := H)) av_nil))) (ssv_one (sv_ret ev_bl)) ssv_nil))))))))))))))))))))))) (by decide)) (ssv_one (sv_ret ev_bl)))))
end
theorem all_mk (hlaw : ∀ ns : List Int, ns.length ≤ 63 → ∃ as2, F_law [.fz (.scr (Ints ns))] = some (.fz (.bl true), as2)) {P : Program} {w : World} {K : PySem.W.Frag} {h : Heap} {mg : Str → Option Value} {fa : Addr} (X : K.In h) (G : h.Ns mainGlobals mg) (hfa : mg "law" = some (.ref fa))
    {f0 f1 f2 f3 f4 f5 f6 f7 f8 f9 f10 f11 f12 f13 f14 f15 f16 f17 f18  : Addr} {od0 an0 od1 an1 od2 an2 od3 an3 od4 an4 od5 an5 od6 an6 od7 an7 od8 an8 od9 an9 od10 an10 od11 an11 od12 an12 od13 an13 od14 an14 od15 an15 od16 an16 od17 an17 od18 an18 : Option Addr} {sl0 sl1 sl2 sl3 sl4 sl5 sl6 sl7 sl8 sl9 sl10 sl11 sl12 sl13 sl14 sl15 sl16 sl17 sl18 : Array (Option Value)} {oc0 kV0 dc0 pm0 cd0 ct0 oc1 kV1 dc1 pm1 cd1 ct1 oc2 kV2 dc2 pm2 cd2 ct2 oc3 kV3 dc3 pm3 cd3 ct3 oc4 kV4 dc4 pm4 cd4 ct4 oc5 kV5 dc5 pm5 cd5 ct5 oc6 kV6 dc6 pm6 cd6 ct6 oc7 kV7 dc7 pm7 cd7 ct7 oc8 kV8 dc8 pm8 cd8 ct8 oc9 kV9 dc9 pm9 cd9 ct9 oc10 kV10 dc10 pm10 cd10 ct10 oc11 kV11 dc11 pm11 cd11 ct11 oc12 kV12 dc12 pm12 cd12 ct12 oc13 kV13 dc13 pm13 cd13 ct13 oc14 kV14 dc14 pm14 cd14 ct14 oc15 kV15 dc15 pm15 cd15 ct15 oc16 kV16 dc16 pm16 cd16 ct16 oc17 kV17 dc17 pm17 cd17 ct17 oc18 kV18 dc18 pm18 cd18 ct18 : Value}
    (a0 : PySem.W.nsIn K mainGlobals "_law_hand" = some (some (.ref f0)))
    (l0 : K.lookup f0 = some ⟨oc0, od0, .func (PySem.W.fnOf "_law_hand" "_law_hand" (defArgs s__law_hand) (defBody s__law_hand) (defScope s__law_hand) .none kV0 dc0 pm0 an0 cd0 ct0), sl0⟩) (c0 : PySem.W.codeIn K cd0 "_law_hand" = true) (k0 : PySem.W.keepIn K (.ref f0) = true)
    (a1 : PySem.W.nsIn K mainGlobals "_law_draw" = some (some (.ref f1)))
    (l1 : K.lookup f1 = some ⟨oc1, od1, .func (PySem.W.fnOf "_law_draw" "_law_draw" (defArgs s__law_draw) (defBody s__law_draw) (defScope s__law_draw) .none kV1 dc1 pm1 an1 cd1 ct1), sl1⟩) (c1 : PySem.W.codeIn K cd1 "_law_draw" = true) (k1 : PySem.W.keepIn K (.ref f1) = true)
    (a2 : PySem.W.nsIn K mainGlobals "_law_is" = some (some (.ref f2)))
    (l2 : K.lookup f2 = some ⟨oc2, od2, .func (PySem.W.fnOf "_law_is" "_law_is" (defArgs s__law_is) (defBody s__law_is) (defScope s__law_is) .none kV2 dc2 pm2 an2 cd2 ct2), sl2⟩) (c2 : PySem.W.codeIn K cd2 "_law_is" = true) (k2 : PySem.W.keepIn K (.ref f2) = true)
    (a3 : PySem.W.nsIn K mainGlobals "is_row" = some (some (.ref f3)))
    (l3 : K.lookup f3 = some ⟨oc3, od3, .func (PySem.W.fnOf "is_row" "is_row" (defArgs s_is_row) (defBody s_is_row) (defScope s_is_row) .none kV3 dc3 pm3 an3 cd3 ct3), sl3⟩) (c3 : PySem.W.codeIn K cd3 "is_row" = true) (k3 : PySem.W.keepIn K (.ref f3) = true)
    (a4 : PySem.W.nsIn K mainGlobals "is_integer" = some (some (.ref f4)))
    (l4 : K.lookup f4 = some ⟨oc4, od4, .func (PySem.W.fnOf "is_integer" "is_integer" (defArgs s_is_integer) (defBody s_is_integer) (defScope s_is_integer) .none kV4 dc4 pm4 an4 cd4 ct4), sl4⟩) (c4 : PySem.W.codeIn K cd4 "is_integer" = true) (k4 : PySem.W.keepIn K (.ref f4) = true)
    (a5 : PySem.W.nsIn K mainGlobals "is_within" = some (some (.ref f5)))
    (l5 : K.lookup f5 = some ⟨oc5, od5, .func (PySem.W.fnOf "is_within" "is_within" (defArgs s_is_within) (defBody s_is_within) (defScope s_is_within) .none kV5 dc5 pm5 an5 cd5 ct5), sl5⟩) (c5 : PySem.W.codeIn K cd5 "is_within" = true) (k5 : PySem.W.keepIn K (.ref f5) = true)
    (a6 : PySem.W.nsIn K mainGlobals "check_times" = some (some (.ref f6)))
    (l6 : K.lookup f6 = some ⟨oc6, od6, .func (PySem.W.fnOf "check_times" "check_times" (defArgs s_check_times) (defBody s_check_times) (defScope s_check_times) .none kV6 dc6 pm6 an6 cd6 ct6), sl6⟩) (c6 : PySem.W.codeIn K cd6 "check_times" = true) (k6 : PySem.W.keepIn K (.ref f6) = true)
    (a7 : PySem.W.nsIn K mainGlobals "check_line" = some (some (.ref f7)))
    (l7 : K.lookup f7 = some ⟨oc7, od7, .func (PySem.W.fnOf "check_line" "check_line" (defArgs s_check_line) (defBody s_check_line) (defScope s_check_line) .none kV7 dc7 pm7 an7 cd7 ct7), sl7⟩) (c7 : PySem.W.codeIn K cd7 "check_line" = true) (k7 : PySem.W.keepIn K (.ref f7) = true)
    (a8 : PySem.W.nsIn K mainGlobals "leaves" = some (some (.ref f8)))
    (l8 : K.lookup f8 = some ⟨oc8, od8, .func (PySem.W.fnOf "leaves" "leaves" (defArgs s_leaves) (defBody s_leaves) (defScope s_leaves) .none kV8 dc8 pm8 an8 cd8 ct8), sl8⟩) (c8 : PySem.W.codeIn K cd8 "leaves" = true) (k8 : PySem.W.keepIn K (.ref f8) = true)
    (a9 : PySem.W.nsIn K mainGlobals "waits" = some (some (.ref f9)))
    (l9 : K.lookup f9 = some ⟨oc9, od9, .func (PySem.W.fnOf "waits" "waits" (defArgs s_waits) (defBody s_waits) (defScope s_waits) .none kV9 dc9 pm9 an9 cd9 ct9), sl9⟩) (c9 : PySem.W.codeIn K cd9 "waits" = true) (k9 : PySem.W.keepIn K (.ref f9) = true)
    (a10 : PySem.W.nsIn K mainGlobals "common_divisor" = some (some (.ref f10)))
    (l10 : K.lookup f10 = some ⟨oc10, od10, .func (PySem.W.fnOf "common_divisor" "common_divisor" (defArgs s_common_divisor) (defBody s_common_divisor) (defScope s_common_divisor) .none kV10 dc10 pm10 an10 cd10 ct10), sl10⟩) (c10 : PySem.W.codeIn K cd10 "common_divisor" = true) (k10 : PySem.W.keepIn K (.ref f10) = true)
    (a11 : PySem.W.nsIn K mainGlobals "fraction" = some (some (.ref f11)))
    (l11 : K.lookup f11 = some ⟨oc11, od11, .func (PySem.W.fnOf "fraction" "fraction" (defArgs s_fraction) (defBody s_fraction) (defScope s_fraction) .none kV11 dc11 pm11 an11 cd11 ct11), sl11⟩) (c11 : PySem.W.codeIn K cd11 "fraction" = true) (k11 : PySem.W.keepIn K (.ref f11) = true)
    (a12 : PySem.W.nsIn K mainGlobals "mean_wait" = some (some (.ref f12)))
    (l12 : K.lookup f12 = some ⟨oc12, od12, .func (PySem.W.fnOf "mean_wait" "mean_wait" (defArgs s_mean_wait) (defBody s_mean_wait) (defScope s_mean_wait) .none kV12 dc12 pm12 an12 cd12 ct12), sl12⟩) (c12 : PySem.W.codeIn K cd12 "mean_wait" = true) (k12 : PySem.W.keepIn K (.ref f12) = true)
    (a13 : PySem.W.nsIn K mainGlobals "_law_fraction" = some (some (.ref f13)))
    (l13 : K.lookup f13 = some ⟨oc13, od13, .func (PySem.W.fnOf "_law_fraction" "_law_fraction" (defArgs s__law_fraction) (defBody s__law_fraction) (defScope s__law_fraction) .none kV13 dc13 pm13 an13 cd13 ct13), sl13⟩) (c13 : PySem.W.codeIn K cd13 "_law_fraction" = true) (k13 : PySem.W.keepIn K (.ref f13) = true)
    (a14 : PySem.W.nsIn K mainGlobals "pauses" = some (some (.ref f14)))
    (l14 : K.lookup f14 = some ⟨oc14, od14, .func (PySem.W.fnOf "pauses" "pauses" (defArgs s_pauses) (defBody s_pauses) (defScope s_pauses) .none kV14 dc14 pm14 an14 cd14 ct14), sl14⟩) (c14 : PySem.W.codeIn K cd14 "pauses" = true) (k14 : PySem.W.keepIn K (.ref f14) = true)
    (a15 : PySem.W.nsIn K mainGlobals "room" = some (some (.ref f15)))
    (l15 : K.lookup f15 = some ⟨oc15, od15, .func (PySem.W.fnOf "room" "room" (defArgs s_room) (defBody s_room) (defScope s_room) .none kV15 dc15 pm15 an15 cd15 ct15), sl15⟩) (c15 : PySem.W.codeIn K cd15 "room" = true) (k15 : PySem.W.keepIn K (.ref f15) = true)
    (a16 : PySem.W.nsIn K mainGlobals "reason" = some (some (.ref f16)))
    (l16 : K.lookup f16 = some ⟨oc16, od16, .func (PySem.W.fnOf "reason" "reason" (defArgs s_reason) (defBody s_reason) (defScope s_reason) .none kV16 dc16 pm16 an16 cd16 ct16), sl16⟩) (c16 : PySem.W.codeIn K cd16 "reason" = true) (k16 : PySem.W.keepIn K (.ref f16) = true)
    (a17 : PySem.W.nsIn K mainGlobals "is_reason" = some (some (.ref f17)))
    (l17 : K.lookup f17 = some ⟨oc17, od17, .func (PySem.W.fnOf "is_reason" "is_reason" (defArgs s_is_reason) (defBody s_is_reason) (defScope s_is_reason) .none kV17 dc17 pm17 an17 cd17 ct17), sl17⟩) (c17 : PySem.W.codeIn K cd17 "is_reason" = true) (k17 : PySem.W.keepIn K (.ref f17) = true)
    (a18 : PySem.W.nsIn K mainGlobals "law" = some (some (.ref f18)))
    (l18 : K.lookup f18 = some ⟨oc18, od18, .func (PySem.W.fnOf "law" "law" (defArgs s_law) (defBody s_law) (defScope s_law) .none kV18 dc18 pm18 an18 cd18 ct18), sl18⟩) (c18 : PySem.W.codeIn K cd18 "law" = true) (k18 : PySem.W.keepIn K (.ref f18) = true)
    (z_abs : PySem.W.nsIn K mainGlobals "abs" = some none)
    (z_all : PySem.W.nsIn K mainGlobals "all" = some none)
    (z_any : PySem.W.nsIn K mainGlobals "any" = some none)
    (z_bool : PySem.W.nsIn K mainGlobals "bool" = some none)
    (z_int : PySem.W.nsIn K mainGlobals "int" = some none)
    (z_isinstance : PySem.W.nsIn K mainGlobals "isinstance" = some none)
    (z_len : PySem.W.nsIn K mainGlobals "len" = some none)
    (z_list : PySem.W.nsIn K mainGlobals "list" = some none)
    (z_max : PySem.W.nsIn K mainGlobals "max" = some none)
    (z_range : PySem.W.nsIn K mainGlobals "range" = some none)
    (z_str : PySem.W.nsIn K mainGlobals "str" = some none)
    (z_sum : PySem.W.nsIn K mainGlobals "sum" = some none)
    (z_tuple : PySem.W.nsIn K mainGlobals "tuple" = some none)
    (z_zip : PySem.W.nsIn K mainGlobals "zip" = some none)
    {tk_MOST_PEOPLE : Tok} (z_MOST_PEOPLE : PySem.W.nsIn K mainGlobals "MOST_PEOPLE" = some (some (.int 30 tk_MOST_PEOPLE)))
    {tk_MOST_TIME : Tok} (z_MOST_TIME : PySem.W.nsIn K mainGlobals "MOST_TIME" = some (some (.int 100000 tk_MOST_TIME)))
    : ∃ fd : FuncData, (∀ (s : Shared) (v : Value), BindsTo s fd ⟨[v], []⟩ [("script", v)]) ∧ ∀ base : Heap, K.In base → base.Ns mainGlobals mg → FnOk P w K mg base CX0 10 fa fd ["script"] (spEnd K) := by
  have e := hfa.symm.trans (PySem.W.mg_of X G a18)
  cases e
  have F0 := fun_mk (st := s__law_hand) l0 c0 k0
  have b0 := F0.binds (ps := ["script"]) fun _ _ _ _ _ _ us hl => match us, hl with | [_], _ => rfl
  have F1 := fun_mk (st := s__law_draw) l1 c1 k1
  have b1 := F1.binds (ps := ["hand", "limit"]) fun _ _ _ _ _ _ us hl => match us, hl with | [_, _], _ => rfl
  have F2 := fun_mk (st := s__law_is) l2 c2 k2
  have b2 := F2.binds (ps := ["shown", "due"]) fun _ _ _ _ _ _ us hl => match us, hl with | [_, _], _ => rfl
  have F3 := fun_mk (st := s_is_row) l3 c3 k3
  have b3 := F3.binds (ps := ["thing"]) fun _ _ _ _ _ _ us hl => match us, hl with | [_], _ => rfl
  have F4 := fun_mk (st := s_is_integer) l4 c4 k4
  have b4 := F4.binds (ps := ["thing"]) fun _ _ _ _ _ _ us hl => match us, hl with | [_], _ => rfl
  have F5 := fun_mk (st := s_is_within) l5 c5 k5
  have b5 := F5.binds (ps := ["thing", "low", "high"]) fun _ _ _ _ _ _ us hl => match us, hl with | [_, _, _], _ => rfl
  have F6 := fun_mk (st := s_check_times) l6 c6 k6
  have b6 := F6.binds (ps := ["thing", "many"]) fun _ _ _ _ _ _ us hl => match us, hl with | [_, _], _ => rfl
  have F7 := fun_mk (st := s_check_line) l7 c7 k7
  have b7 := F7.binds (ps := ["comes", "serves"]) fun _ _ _ _ _ _ us hl => match us, hl with | [_, _], _ => rfl
  have F8 := fun_mk (st := s_leaves) l8 c8 k8
  have b8 := F8.binds (ps := ["comes", "serves"]) fun _ _ _ _ _ _ us hl => match us, hl with | [_, _], _ => rfl
  have F9 := fun_mk (st := s_waits) l9 c9 k9
  have b9 := F9.binds (ps := ["comes", "serves"]) fun _ _ _ _ _ _ us hl => match us, hl with | [_, _], _ => rfl
  have F10 := fun_mk (st := s_common_divisor) l10 c10 k10
  have b10 := F10.binds (ps := ["one", "other"]) fun _ _ _ _ _ _ us hl => match us, hl with | [_, _], _ => rfl
  have F11 := fun_mk (st := s_fraction) l11 c11 k11
  have b11 := F11.binds (ps := ["top", "bottom"]) fun _ _ _ _ _ _ us hl => match us, hl with | [_, _], _ => rfl
  have F12 := fun_mk (st := s_mean_wait) l12 c12 k12
  have b12 := F12.binds (ps := ["comes", "serves"]) fun _ _ _ _ _ _ us hl => match us, hl with | [_, _], _ => rfl
  have F13 := fun_mk (st := s__law_fraction) l13 c13 k13
  have b13 := F13.binds (ps := ["top", "bottom"]) fun _ _ _ _ _ _ us hl => match us, hl with | [_, _], _ => rfl
  have F14 := fun_mk (st := s_pauses) l14 c14 k14
  have b14 := F14.binds (ps := ["comes", "serves"]) fun _ _ _ _ _ _ us hl => match us, hl with | [_, _], _ => rfl
  have F15 := fun_mk (st := s_room) l15 c15 k15
  have b15 := F15.binds (ps := ["comes", "serves"]) fun _ _ _ _ _ _ us hl => match us, hl with | [_, _], _ => rfl
  have F16 := fun_mk (st := s_reason) l16 c16 k16
  have b16 := F16.binds (ps := ["comes", "serves", "person"]) fun _ _ _ _ _ _ us hl => match us, hl with | [_, _, _], _ => rfl
  have F17 := fun_mk (st := s_is_reason) l17 c17 k17
  have b17 := F17.binds (ps := ["comes", "serves", "person", "thing"]) fun _ _ _ _ _ _ us hl => match us, hl with | [_, _, _, _], _ => rfl
  have F18 := fun_mk (st := s_law) l18 c18 k18
  have b18 := F18.binds (ps := ["script"]) fun _ _ _ _ _ _ us hl => match us, hl with | [_], _ => rfl
  have hT : ∃ T : Tx K mg, T.f_law = fa ∧ ∀ (s : Shared) (v : Value), BindsTo s T.d_law ⟨[v], []⟩ [("script", v)] := ⟨{
    f__law_hand := f0, d__law_hand := _, F__law_hand := F0, b__law_hand := b0,
    g__law_hand := PySem.W.mg_of X G a0,
    f__law_draw := f1, d__law_draw := _, F__law_draw := F1, b__law_draw := b1,
    g__law_draw := PySem.W.mg_of X G a1,
    f__law_is := f2, d__law_is := _, F__law_is := F2, b__law_is := b2,
    g__law_is := PySem.W.mg_of X G a2,
    f_is_row := f3, d_is_row := _, F_is_row := F3, b_is_row := b3,
    g_is_row := PySem.W.mg_of X G a3,
    f_is_integer := f4, d_is_integer := _, F_is_integer := F4, b_is_integer := b4,
    g_is_integer := PySem.W.mg_of X G a4,
    f_is_within := f5, d_is_within := _, F_is_within := F5, b_is_within := b5,
    g_is_within := PySem.W.mg_of X G a5,
    f_check_times := f6, d_check_times := _, F_check_times := F6, b_check_times := b6,
    g_check_times := PySem.W.mg_of X G a6,
    f_check_line := f7, d_check_line := _, F_check_line := F7, b_check_line := b7,
    g_check_line := PySem.W.mg_of X G a7,
    f_leaves := f8, d_leaves := _, F_leaves := F8, b_leaves := b8,
    g_leaves := PySem.W.mg_of X G a8,
    f_waits := f9, d_waits := _, F_waits := F9, b_waits := b9,
    g_waits := PySem.W.mg_of X G a9,
    f_common_divisor := f10, d_common_divisor := _, F_common_divisor := F10, b_common_divisor := b10,
    g_common_divisor := PySem.W.mg_of X G a10,
    f_fraction := f11, d_fraction := _, F_fraction := F11, b_fraction := b11,
    g_fraction := PySem.W.mg_of X G a11,
    f_mean_wait := f12, d_mean_wait := _, F_mean_wait := F12, b_mean_wait := b12,
    g_mean_wait := PySem.W.mg_of X G a12,
    f__law_fraction := f13, d__law_fraction := _, F__law_fraction := F13, b__law_fraction := b13,
    g__law_fraction := PySem.W.mg_of X G a13,
    f_pauses := f14, d_pauses := _, F_pauses := F14, b_pauses := b14,
    g_pauses := PySem.W.mg_of X G a14,
    f_room := f15, d_room := _, F_room := F15, b_room := b15,
    g_room := PySem.W.mg_of X G a15,
    f_reason := f16, d_reason := _, F_reason := F16, b_reason := b16,
    g_reason := PySem.W.mg_of X G a16,
    f_is_reason := f17, d_is_reason := _, F_is_reason := F17, b_is_reason := b17,
    g_is_reason := PySem.W.mg_of X G a17,
    f_law := _, d_law := _, F_law := F18, b_law := b18,
    g_law := PySem.W.mg_of X G a18,
    m_abs := PySem.W.mg_none_of X G z_abs,
    m_all := PySem.W.mg_none_of X G z_all,
    m_any := PySem.W.mg_none_of X G z_any,
    m_bool := PySem.W.mg_none_of X G z_bool,
    m_int := PySem.W.mg_none_of X G z_int,
    m_isinstance := PySem.W.mg_none_of X G z_isinstance,
    m_len := PySem.W.mg_none_of X G z_len,
    m_list := PySem.W.mg_none_of X G z_list,
    m_max := PySem.W.mg_none_of X G z_max,
    m_range := PySem.W.mg_none_of X G z_range,
    m_str := PySem.W.mg_none_of X G z_str,
    m_sum := PySem.W.mg_none_of X G z_sum,
    m_tuple := PySem.W.mg_none_of X G z_tuple,
    m_zip := PySem.W.mg_none_of X G z_zip,
    k_MOST_PEOPLE := ⟨_, PySem.W.mg_of X G z_MOST_PEOPLE, _, rfl⟩,
    k_MOST_TIME := ⟨_, PySem.W.mg_of X G z_MOST_TIME, _, rfl⟩ }, rfl, fun s v => .of_eq rfl⟩
  obtain ⟨T, eT, hb⟩ := hT
  exact ⟨T.d_law, hb, fun base _ _ => eT ▸ end_of (ok_law T) rfl hlaw⟩
end Wk42
set_option Elab.async false
set_option linter.all false
set_option maxRecDepth 100000
set_option maxHeartbeats 400000
namespace Wk42
open PySem PL

def Sq (p : PV) (xs : List PV) : Prop := p = .lst xs ∨ p = .tup xs
def am : Option Int → PV
  | none => .non
  | some i => .int i
theorem S_is_row {p : PV} {xs : List PV} (h : Sq p xs) : F_is_row [.fz p] = some (.fz (.bl true), [.fz p]) := by
  rcases h with rfl | rfl <;> simp [F_is_row, fnF, prepP, finP, sNil, sSeq, sIf, sRet, sRetN, sExpr, sSet, sPar, sPar3, sAsg, sSetIx, sFor, gNm, gTp, gsNil, gsCons, eVar, ePk, eMv, eBor, eC, eBin, eNeg, eAndF, eOrF, eNotF, eIf, eChain, eTup, eLst, eNary, eCall, eMeth, eMake, eFld, eSl, oSome, oNone, aNil, aCons, tOf, tAndF, tOrF, tNotF, cont, conts, tmpOf, valOf, valsOf, toVl, Vl.sl, putB, iSeq, seqOf, iRange1, iRange2, iZip2, iZip3, iEnum, opAdd, opSub, opMul, opMod, opFdiv, opPow, opEq, opNe, opLt, opLe, opGt, opGe, opCmp, opIs, opIsNot, opIx, opSl, isNon, clLen, clAbs, clInt, clMax, clMin, clMax2, clMin2, clSum, clAll, clAny, clTuple, clList, clIsi, isTy, isAny, tyP, subTy, eAppend, eExtend, L2.atI, L2.ixN, datN_i, datN_n, datN_b, datN_l, datN_t, datNs_Ints, datNs_nil, eqP_ii, eqP_ll, eqP_tt, eqP_nn, eqP_bb, eqPs_Ints, eqPs_nn, eqPs_nc, eqPs_cn, lineN]
theorem S_is_integer (i : Int) : F_is_integer [.fz (.int i)] = some (.fz (.bl true), [.fz (.int i)]) := by
  simp [F_is_integer, fnF, prepP, finP, sNil, sSeq, sIf, sRet, sRetN, sExpr, sSet, sPar, sPar3, sAsg, sSetIx, sFor, gNm, gTp, gsNil, gsCons, eVar, ePk, eMv, eBor, eC, eBin, eNeg, eAndF, eOrF, eNotF, eIf, eChain, eTup, eLst, eNary, eCall, eMeth, eMake, eFld, eSl, oSome, oNone, aNil, aCons, tOf, tAndF, tOrF, tNotF, cont, conts, tmpOf, valOf, valsOf, toVl, Vl.sl, putB, iSeq, seqOf, iRange1, iRange2, iZip2, iZip3, iEnum, opAdd, opSub, opMul, opMod, opFdiv, opPow, opEq, opNe, opLt, opLe, opGt, opGe, opCmp, opIs, opIsNot, opIx, opSl, isNon, clLen, clAbs, clInt, clMax, clMin, clMax2, clMin2, clSum, clAll, clAny, clTuple, clList, clIsi, isTy, isAny, tyP, subTy, eAppend, eExtend, L2.atI, L2.ixN, datN_i, datN_n, datN_b, datN_l, datN_t, datNs_Ints, datNs_nil, eqP_ii, eqP_ll, eqP_tt, eqP_nn, eqP_bb, eqPs_Ints, eqPs_nn, eqPs_nc, eqPs_cn, lineN]
theorem S_is_within {i lo hi : Int} (h1 : lo ≤ i) (h2 : i ≤ hi) : F_is_within [.fz (.int i), .fz (.int lo), .fz (.int hi)] = some (.fz (.bl true), [.fz (.int i), .fz (.int lo), .fz (.int hi)]) := by
  simp [F_is_within, fnF, prepP, finP, sNil, sSeq, sIf, sRet, sRetN, sExpr, sSet, sPar, sPar3, sAsg, sSetIx, sFor, gNm, gTp, gsNil, gsCons, eVar, ePk, eMv, eBor, eC, eBin, eNeg, eAndF, eOrF, eNotF, eIf, eChain, eTup, eLst, eNary, eCall, eMeth, eMake, eFld, eSl, oSome, oNone, aNil, aCons, tOf, tAndF, tOrF, tNotF, cont, conts, tmpOf, valOf, valsOf, toVl, Vl.sl, putB, iSeq, seqOf, iRange1, iRange2, iZip2, iZip3, iEnum, opAdd, opSub, opMul, opMod, opFdiv, opPow, opEq, opNe, opLt, opLe, opGt, opGe, opCmp, opIs, opIsNot, opIx, opSl, isNon, clLen, clAbs, clInt, clMax, clMin, clMax2, clMin2, clSum, clAll, clAny, clTuple, clList, clIsi, isTy, isAny, tyP, subTy, eAppend, eExtend, L2.atI, L2.ixN, datN_i, datN_n, datN_b, datN_l, datN_t, datNs_Ints, datNs_nil, eqP_ii, eqP_ll, eqP_tt, eqP_nn, eqP_bb, eqPs_Ints, eqPs_nn, eqPs_nc, eqPs_cn, lineN, S_is_integer, h1, h2]
theorem blsOf_true {α : Type} : ∀ xs : List α, blsOf (xs.map fun _ => PV.bl true) = some (xs.map fun _ => true)
  | [] => rfl
  | x :: xs => by
    have := blsOf_true xs
    simp only [List.map_cons]
    unfold blsOf
    rw [this]; rfl
theorem all_true {α : Type} (xs : List α) : (xs.map fun _ => true).all id = true := by simp
theorem S_check_times {p : PV} {cs : List Int} {m : Int} (hp : Sq p (Ints cs)) (hm : (cs.length : Int) = m) (hb : ∀ c ∈ cs, 0 ≤ c ∧ c ≤ 100000) : F_check_times [.fz p, .fz (.int m)] = some (.fz .non, [.fz p, .fz (.int m)]) := by
  have e : F_check_times_l1 [.fz p, .fz (.int m), .un] = some (.own ((Ints cs).map fun _ => .bl true), [.fz p, .fz (.int m), .un]) := by
    refine eLc_map (items := Ints cs) (rs := [.fz p]) (fun _ => .bl true) (by rcases hp with rfl | rfl <;> simp [fnF, prepP, finP, sNil, sSeq, sIf, sRet, sRetN, sExpr, sSet, sPar, sPar3, sAsg, sSetIx, sFor, gNm, gTp, gsNil, gsCons, eVar, ePk, eMv, eBor, eC, eBin, eNeg, eAndF, eOrF, eNotF, eIf, eChain, eTup, eLst, eNary, eCall, eMeth, eMake, eFld, eSl, oSome, oNone, aNil, aCons, tOf, tAndF, tOrF, tNotF, cont, conts, tmpOf, valOf, valsOf, toVl, Vl.sl, putB, iSeq, seqOf, iRange1, iRange2, iZip2, iZip3, iEnum, opAdd, opSub, opMul, opMod, opFdiv, opPow, opEq, opNe, opLt, opLe, opGt, opGe, opCmp, opIs, opIsNot, opIx, opSl, isNon, clLen, clAbs, clInt, clMax, clMin, clMax2, clMin2, clSum, clAll, clAny, clTuple, clList, clIsi, isTy, isAny, tyP, subTy, eAppend, eExtend, L2.atI, L2.ixN, datN_i, datN_n, datN_b, datN_l, datN_t, datNs_Ints, datNs_nil, eqP_ii, eqP_ll, eqP_tt, eqP_nn, eqP_bb, eqPs_Ints, eqPs_nn, eqPs_nc, eqPs_cn, lineN]) (by simp [fnF, prepP, finP, sNil, sSeq, sIf, sRet, sRetN, sExpr, sSet, sPar, sPar3, sAsg, sSetIx, sFor, gNm, gTp, gsNil, gsCons, eVar, ePk, eMv, eBor, eC, eBin, eNeg, eAndF, eOrF, eNotF, eIf, eChain, eTup, eLst, eNary, eCall, eMeth, eMake, eFld, eSl, oSome, oNone, aNil, aCons, tOf, tAndF, tOrF, tNotF, cont, conts, tmpOf, valOf, valsOf, toVl, Vl.sl, putB, iSeq, seqOf, iRange1, iRange2, iZip2, iZip3, iEnum, opAdd, opSub, opMul, opMod, opFdiv, opPow, opEq, opNe, opLt, opLe, opGt, opGe, opCmp, opIs, opIsNot, opIx, opSl, isNon, clLen, clAbs, clInt, clMax, clMin, clMax2, clMin2, clSum, clAll, clAny, clTuple, clList, clIsi, isTy, isAny, tyP, subTy, eAppend, eExtend, L2.atI, L2.ixN, datN_i, datN_n, datN_b, datN_l, datN_t, datNs_Ints, datNs_nil, eqP_ii, eqP_ll, eqP_tt, eqP_nn, eqP_bb, eqPs_Ints, eqPs_nn, eqPs_nc, eqPs_cn, lineN]) (by decide) (by simp) fun q hq => ?_
    obtain ⟨c, hc, rfl⟩ := Ints_mem hq
    refine ⟨[.fz (.int c)], .fz (.bl true), [.fz (.int c)], ?_⟩
    simp [fnF, prepP, finP, sNil, sSeq, sIf, sRet, sRetN, sExpr, sSet, sPar, sPar3, sAsg, sSetIx, sFor, gNm, gTp, gsNil, gsCons, eVar, ePk, eMv, eBor, eC, eBin, eNeg, eAndF, eOrF, eNotF, eIf, eChain, eTup, eLst, eNary, eCall, eMeth, eMake, eFld, eSl, oSome, oNone, aNil, aCons, tOf, tAndF, tOrF, tNotF, cont, conts, tmpOf, valOf, valsOf, toVl, Vl.sl, putB, iSeq, seqOf, iRange1, iRange2, iZip2, iZip3, iEnum, opAdd, opSub, opMul, opMod, opFdiv, opPow, opEq, opNe, opLt, opLe, opGt, opGe, opCmp, opIs, opIsNot, opIx, opSl, isNon, clLen, clAbs, clInt, clMax, clMin, clMax2, clMin2, clSum, clAll, clAny, clTuple, clList, clIsi, isTy, isAny, tyP, subTy, eAppend, eExtend, L2.atI, L2.ixN, datN_i, datN_n, datN_b, datN_l, datN_t, datNs_Ints, datNs_nil, eqP_ii, eqP_ll, eqP_tt, eqP_nn, eqP_bb, eqPs_Ints, eqPs_nn, eqPs_nc, eqPs_cn, lineN, wipeS, backS, S_is_within (hb c hc).1 (hb c hc).2]
  rcases hp with rfl | rfl
  · simp [F_check_times, fnF, prepP, finP, sNil, sSeq, sIf, sRet, sRetN, sExpr, sSet, sPar, sPar3, sAsg, sSetIx, sFor, gNm, gTp, gsNil, gsCons, eVar, ePk, eMv, eBor, eC, eBin, eNeg, eAndF, eOrF, eNotF, eIf, eChain, eTup, eLst, eNary, eCall, eMeth, eMake, eFld, eSl, oSome, oNone, aNil, aCons, tOf, tAndF, tOrF, tNotF, cont, conts, tmpOf, valOf, valsOf, toVl, Vl.sl, putB, iSeq, seqOf, iRange1, iRange2, iZip2, iZip3, iEnum, opAdd, opSub, opMul, opMod, opFdiv, opPow, opEq, opNe, opLt, opLe, opGt, opGe, opCmp, opIs, opIsNot, opIx, opSl, isNon, clLen, clAbs, clInt, clMax, clMin, clMax2, clMin2, clSum, clAll, clAny, clTuple, clList, clIsi, isTy, isAny, tyP, subTy, eAppend, eExtend, L2.atI, L2.ixN, datN_i, datN_n, datN_b, datN_l, datN_t, datNs_Ints, datNs_nil, eqP_ii, eqP_ll, eqP_tt, eqP_nn, eqP_bb, eqPs_Ints, eqPs_nn, eqPs_nc, eqPs_cn, lineN, Ints_len, S_is_row (.inl rfl), e, hm, blsOf_true, all_true]
  · simp [F_check_times, fnF, prepP, finP, sNil, sSeq, sIf, sRet, sRetN, sExpr, sSet, sPar, sPar3, sAsg, sSetIx, sFor, gNm, gTp, gsNil, gsCons, eVar, ePk, eMv, eBor, eC, eBin, eNeg, eAndF, eOrF, eNotF, eIf, eChain, eTup, eLst, eNary, eCall, eMeth, eMake, eFld, eSl, oSome, oNone, aNil, aCons, tOf, tAndF, tOrF, tNotF, cont, conts, tmpOf, valOf, valsOf, toVl, Vl.sl, putB, iSeq, seqOf, iRange1, iRange2, iZip2, iZip3, iEnum, opAdd, opSub, opMul, opMod, opFdiv, opPow, opEq, opNe, opLt, opLe, opGt, opGe, opCmp, opIs, opIsNot, opIx, opSl, isNon, clLen, clAbs, clInt, clMax, clMin, clMax2, clMin2, clSum, clAll, clAny, clTuple, clList, clIsi, isTy, isAny, tyP, subTy, eAppend, eExtend, L2.atI, L2.ixN, datN_i, datN_n, datN_b, datN_l, datN_t, datNs_Ints, datNs_nil, eqP_ii, eqP_ll, eqP_tt, eqP_nn, eqP_bb, eqPs_Ints, eqPs_nn, eqPs_nc, eqPs_cn, lineN, Ints_len, S_is_row (.inr rfl), e, hm, blsOf_true, all_true]
theorem blsOf_eq : ∀ {bs : List PV} {xs : List Bool}, blsOf bs = some xs → bs = xs.map .bl
  | [], xs, h => by cases h; rfl
  | b :: bs, xs, h => by
    cases b <;> simp [blsOf] at h
    obtain ⟨ys, h1, rfl⟩ := h
    rw [List.map_cons, ← blsOf_eq h1]
def inc : List Int → Bool
  | a :: b :: r => decide (a ≤ b) && inc (b :: r)
  | _ => true
theorem any_false {α : Type} (xs : List α) : (xs.map fun _ => false).any id = false := by simp
theorem blsOf_false {α : Type} : ∀ xs : List α, blsOf (xs.map fun _ => PV.bl false) = some (xs.map fun _ => false)
  | [] => rfl
  | x :: xs => by
    have := blsOf_false xs
    simp only [List.map_cons]
    unfold blsOf
    rw [this]; rfl
theorem zip_inc : ∀ {cs : List Int}, inc cs = true → ∀ q ∈ zipP (Ints cs) (Ints (cs.drop 1)), ∃ a b : Int, q = .tup [.int a, .int b] ∧ a ≤ b
  | [], _, q, h => by simp [Ints_nil, zipP] at h
  | [a], _, q, h => by simp [Ints_cons, Ints_nil, zipP] at h
  | a :: b :: r, hi, q, h => by
    unfold inc at hi
    simp only [Bool.and_eq_true, decide_eq_true_eq] at hi
    have e : zipP (Ints (a :: b :: r)) (Ints ((a :: b :: r).drop 1)) = .tup [.int a, .int b] :: zipP (Ints (b :: r)) (Ints ((b :: r).drop 1)) := by
      rw [Ints_cons, List.drop_succ_cons, List.drop_zero, Ints_cons, zipP]; rfl
    rw [e] at h
    rcases List.mem_cons.mp h with rfl | h
    · exact ⟨a, b, rfl, hi.1⟩
    · exact zip_inc hi.2 q h
theorem cut_one {α : Type} (xs : List α) : cutP xs (some 1) none = xs.drop 1 := by
  unfold cutP
  rw [show HT.sIx xs.length 0 (some 1) = min 1 xs.length from HT.sIx_nat xs.length 0 1, HT.sIx_none]
  cases xs with
  | nil => rfl
  | cons x r =>
    rw [show min 1 (x :: r).length = 1 by rw [List.length_cons]; omega]
    rw [List.drop_succ_cons, List.drop_zero]
    apply List.take_of_length_le
    rw [List.length_cons]; omega
structure Ln (cs ss : List Int) : Prop where
  l1 : 1 ≤ cs.length
  l2 : cs.length ≤ 30
  ls : ss.length = cs.length
  bc : ∀ c ∈ cs, 0 ≤ c ∧ c ≤ 100000
  bs : ∀ c ∈ ss, 0 ≤ c ∧ c ≤ 100000
  up : inc cs = true
theorem S_check_line {p q : PV} {cs ss : List Int} (hp : Sq p (Ints cs)) (hq : Sq q (Ints ss)) (h : Ln cs ss) : F_check_line [.fz p, .fz q] = some (.fz .non, [.fz p, .fz q]) := by
  have t1 := S_check_times (m := cs.length) hp rfl h.bc
  have t2 := S_check_times (m := cs.length) hq (by rw [h.ls]) h.bs
  have c1 : (1 : Int) ≤ cs.length := by have := h.l1; omega
  have c2 : (cs.length : Int) ≤ 30 := by have := h.l2; omega
  have e : F_check_line_l1 [.fz p, .fz q, .un, .un] = some (.own ((zipP (Ints cs) (Ints (cs.drop 1))).map fun _ => .bl false), [.fz p, .fz q, .un, .un]) := by
    have e1 : ∀ xs : List Int, (Ints xs).tail = Ints xs.tail := fun xs => by cases xs <;> rfl
    rcases hp with rfl | rfl
    refine eLc_map (items := zipP (Ints cs) (Ints (cs.drop 1))) (rs := [.fz (.lst (Ints cs)), .own (Ints (cs.drop 1))]) (fun _ => .bl false) (by simp [fnF, prepP, finP, sNil, sSeq, sIf, sRet, sRetN, sExpr, sSet, sPar, sPar3, sAsg, sSetIx, sFor, gNm, gTp, gsNil, gsCons, eVar, ePk, eMv, eBor, eC, eBin, eNeg, eAndF, eOrF, eNotF, eIf, eChain, eTup, eLst, eNary, eCall, eMeth, eMake, eFld, eSl, oSome, oNone, aNil, aCons, tOf, tAndF, tOrF, tNotF, cont, conts, tmpOf, valOf, valsOf, toVl, Vl.sl, putB, iSeq, seqOf, iRange1, iRange2, iZip2, iZip3, iEnum, opAdd, opSub, opMul, opMod, opFdiv, opPow, opEq, opNe, opLt, opLe, opGt, opGe, opCmp, opIs, opIsNot, opIx, opSl, isNon, clLen, clAbs, clInt, clMax, clMin, clMax2, clMin2, clSum, clAll, clAny, clTuple, clList, clIsi, isTy, isAny, tyP, subTy, eAppend, eExtend, L2.atI, L2.ixN, datN_i, datN_n, datN_b, datN_l, datN_t, datNs_Ints, datNs_nil, eqP_ii, eqP_ll, eqP_tt, eqP_nn, eqP_bb, eqPs_Ints, eqPs_nn, eqPs_nc, eqPs_cn, lineN, cutP_Ints, cut_one, e1]) (by simp [fnF, prepP, finP, sNil, sSeq, sIf, sRet, sRetN, sExpr, sSet, sPar, sPar3, sAsg, sSetIx, sFor, gNm, gTp, gsNil, gsCons, eVar, ePk, eMv, eBor, eC, eBin, eNeg, eAndF, eOrF, eNotF, eIf, eChain, eTup, eLst, eNary, eCall, eMeth, eMake, eFld, eSl, oSome, oNone, aNil, aCons, tOf, tAndF, tOrF, tNotF, cont, conts, tmpOf, valOf, valsOf, toVl, Vl.sl, putB, iSeq, seqOf, iRange1, iRange2, iZip2, iZip3, iEnum, opAdd, opSub, opMul, opMod, opFdiv, opPow, opEq, opNe, opLt, opLe, opGt, opGe, opCmp, opIs, opIsNot, opIx, opSl, isNon, clLen, clAbs, clInt, clMax, clMin, clMax2, clMin2, clSum, clAll, clAny, clTuple, clList, clIsi, isTy, isAny, tyP, subTy, eAppend, eExtend, L2.atI, L2.ixN, datN_i, datN_n, datN_b, datN_l, datN_t, datNs_Ints, datNs_nil, eqP_ii, eqP_ll, eqP_tt, eqP_nn, eqP_bb, eqPs_Ints, eqPs_nn, eqPs_nc, eqPs_cn, lineN]) (by decide) (by simp) ?_
    rotate_left
    refine eLc_map (items := zipP (Ints cs) (Ints (cs.drop 1))) (rs := [.fz (.tup (Ints cs)), .fz (.tup (Ints (cs.drop 1)))]) (fun _ => .bl false) (by simp [fnF, prepP, finP, sNil, sSeq, sIf, sRet, sRetN, sExpr, sSet, sPar, sPar3, sAsg, sSetIx, sFor, gNm, gTp, gsNil, gsCons, eVar, ePk, eMv, eBor, eC, eBin, eNeg, eAndF, eOrF, eNotF, eIf, eChain, eTup, eLst, eNary, eCall, eMeth, eMake, eFld, eSl, oSome, oNone, aNil, aCons, tOf, tAndF, tOrF, tNotF, cont, conts, tmpOf, valOf, valsOf, toVl, Vl.sl, putB, iSeq, seqOf, iRange1, iRange2, iZip2, iZip3, iEnum, opAdd, opSub, opMul, opMod, opFdiv, opPow, opEq, opNe, opLt, opLe, opGt, opGe, opCmp, opIs, opIsNot, opIx, opSl, isNon, clLen, clAbs, clInt, clMax, clMin, clMax2, clMin2, clSum, clAll, clAny, clTuple, clList, clIsi, isTy, isAny, tyP, subTy, eAppend, eExtend, L2.atI, L2.ixN, datN_i, datN_n, datN_b, datN_l, datN_t, datNs_Ints, datNs_nil, eqP_ii, eqP_ll, eqP_tt, eqP_nn, eqP_bb, eqPs_Ints, eqPs_nn, eqPs_nc, eqPs_cn, lineN, cutP_Ints, cut_one, e1]) (by simp [fnF, prepP, finP, sNil, sSeq, sIf, sRet, sRetN, sExpr, sSet, sPar, sPar3, sAsg, sSetIx, sFor, gNm, gTp, gsNil, gsCons, eVar, ePk, eMv, eBor, eC, eBin, eNeg, eAndF, eOrF, eNotF, eIf, eChain, eTup, eLst, eNary, eCall, eMeth, eMake, eFld, eSl, oSome, oNone, aNil, aCons, tOf, tAndF, tOrF, tNotF, cont, conts, tmpOf, valOf, valsOf, toVl, Vl.sl, putB, iSeq, seqOf, iRange1, iRange2, iZip2, iZip3, iEnum, opAdd, opSub, opMul, opMod, opFdiv, opPow, opEq, opNe, opLt, opLe, opGt, opGe, opCmp, opIs, opIsNot, opIx, opSl, isNon, clLen, clAbs, clInt, clMax, clMin, clMax2, clMin2, clSum, clAll, clAny, clTuple, clList, clIsi, isTy, isAny, tyP, subTy, eAppend, eExtend, L2.atI, L2.ixN, datN_i, datN_n, datN_b, datN_l, datN_t, datNs_Ints, datNs_nil, eqP_ii, eqP_ll, eqP_tt, eqP_nn, eqP_bb, eqPs_Ints, eqPs_nn, eqPs_nc, eqPs_cn, lineN]) (by decide) (by simp) ?_
    all_goals
      intro q hq
      obtain ⟨a, b, rfl, hab⟩ := zip_inc h.up q hq
      have : ¬ b < a := by omega
      refine ⟨[.fz (.int a), .fz (.int b)], .fz (.bl false), [.fz (.int a), .fz (.int b)], ?_⟩
      simp [fnF, prepP, finP, sNil, sSeq, sIf, sRet, sRetN, sExpr, sSet, sPar, sPar3, sAsg, sSetIx, sFor, gNm, gTp, gsNil, gsCons, eVar, ePk, eMv, eBor, eC, eBin, eNeg, eAndF, eOrF, eNotF, eIf, eChain, eTup, eLst, eNary, eCall, eMeth, eMake, eFld, eSl, oSome, oNone, aNil, aCons, tOf, tAndF, tOrF, tNotF, cont, conts, tmpOf, valOf, valsOf, toVl, Vl.sl, putB, iSeq, seqOf, iRange1, iRange2, iZip2, iZip3, iEnum, opAdd, opSub, opMul, opMod, opFdiv, opPow, opEq, opNe, opLt, opLe, opGt, opGe, opCmp, opIs, opIsNot, opIx, opSl, isNon, clLen, clAbs, clInt, clMax, clMin, clMax2, clMin2, clSum, clAll, clAny, clTuple, clList, clIsi, isTy, isAny, tyP, subTy, eAppend, eExtend, L2.atI, L2.ixN, datN_i, datN_n, datN_b, datN_l, datN_t, datNs_Ints, datNs_nil, eqP_ii, eqP_ll, eqP_tt, eqP_nn, eqP_bb, eqPs_Ints, eqPs_nn, eqPs_nc, eqPs_cn, lineN, wipeS, backS, this]
  rcases hp with rfl | rfl
  · simp [F_check_line, fnF, prepP, finP, sNil, sSeq, sIf, sRet, sRetN, sExpr, sSet, sPar, sPar3, sAsg, sSetIx, sFor, gNm, gTp, gsNil, gsCons, eVar, ePk, eMv, eBor, eC, eBin, eNeg, eAndF, eOrF, eNotF, eIf, eChain, eTup, eLst, eNary, eCall, eMeth, eMake, eFld, eSl, oSome, oNone, aNil, aCons, tOf, tAndF, tOrF, tNotF, cont, conts, tmpOf, valOf, valsOf, toVl, Vl.sl, putB, iSeq, seqOf, iRange1, iRange2, iZip2, iZip3, iEnum, opAdd, opSub, opMul, opMod, opFdiv, opPow, opEq, opNe, opLt, opLe, opGt, opGe, opCmp, opIs, opIsNot, opIx, opSl, isNon, clLen, clAbs, clInt, clMax, clMin, clMax2, clMin2, clSum, clAll, clAny, clTuple, clList, clIsi, isTy, isAny, tyP, subTy, eAppend, eExtend, L2.atI, L2.ixN, datN_i, datN_n, datN_b, datN_l, datN_t, datNs_Ints, datNs_nil, eqP_ii, eqP_ll, eqP_tt, eqP_nn, eqP_bb, eqPs_Ints, eqPs_nn, eqPs_nc, eqPs_cn, lineN, S_is_row (.inl rfl), e, Ints_len, t1, t2, c1, c2, blsOf_false, any_false]
  · simp [F_check_line, fnF, prepP, finP, sNil, sSeq, sIf, sRet, sRetN, sExpr, sSet, sPar, sPar3, sAsg, sSetIx, sFor, gNm, gTp, gsNil, gsCons, eVar, ePk, eMv, eBor, eC, eBin, eNeg, eAndF, eOrF, eNotF, eIf, eChain, eTup, eLst, eNary, eCall, eMeth, eMake, eFld, eSl, oSome, oNone, aNil, aCons, tOf, tAndF, tOrF, tNotF, cont, conts, tmpOf, valOf, valsOf, toVl, Vl.sl, putB, iSeq, seqOf, iRange1, iRange2, iZip2, iZip3, iEnum, opAdd, opSub, opMul, opMod, opFdiv, opPow, opEq, opNe, opLt, opLe, opGt, opGe, opCmp, opIs, opIsNot, opIx, opSl, isNon, clLen, clAbs, clInt, clMax, clMin, clMax2, clMin2, clSum, clAll, clAny, clTuple, clList, clIsi, isTy, isAny, tyP, subTy, eAppend, eExtend, L2.atI, L2.ixN, datN_i, datN_n, datN_b, datN_l, datN_t, datNs_Ints, datNs_nil, eqP_ii, eqP_ll, eqP_tt, eqP_nn, eqP_bb, eqPs_Ints, eqPs_nn, eqPs_nc, eqPs_cn, lineN, S_is_row (.inr rfl), e, Ints_len, t1, t2, c1, c2, blsOf_false, any_false]
def stp (l : Option Int) (c s : Int) : Int := (match l with | none => c | some l => max c l) + s
def lvs : Option Int → List Int → List Int → List Int
  | l, c :: cs, s :: ss => stp l c s :: lvs (some (stp l c s)) cs ss
  | _, _, _ => []
theorem lvs_len : ∀ (l : Option Int) (cs ss : List Int), ss.length = cs.length → (lvs l cs ss).length = cs.length
  | l, [], ss, h => by simp [lvs]
  | l, c :: cs, [], h => by simp at h
  | l, c :: cs, s :: ss, h => by rw [lvs, List.length_cons, List.length_cons, lvs_len _ cs ss (by simpa using h)]
theorem eqPs_In (a : List Int) : eqPs (Ints a) [] = a.isEmpty := by
  cases a with
  | nil => exact eqPs_nn
  | cons x a => exact eqPs_cn _ _
theorem atI_lastI (f : List Int) (l : Int) : L2.atI (Ints f ++ [.int l]) (-1) = some (.int l) := L2.atI_last _ _
theorem Ints_snoc (f : List Int) (l : Int) : Ints f ++ [.int l] = Ints (f ++ [l]) := by rw [Ints_app]; rfl
def beg (l : Option Int) (c : Int) : Int := match l with | none => c | some l => max c l
def wts : List Int → List Int → List Int → List Int
  | c :: cs, s :: ss, l :: ls => (l - s - c) :: wts cs ss ls
  | _, _, _ => []
theorem zip3_wts : ∀ (cs ss ls : List Int), (zip3P (Ints cs) (Ints ss) (Ints ls)).map (fun p => match p with | .tup [.int c, .int s, .int l] => .int (l - s - c) | _ => .non) = Ints (wts cs ss ls)
  | [], ss, ls => by simp [Ints_nil, zip3P, wts]
  | c :: cs, [], ls => by simp [Ints_nil, Ints_cons, zip3P, wts]
  | c :: cs, s :: ss, [] => by simp [Ints_nil, Ints_cons, zip3P, wts]
  | c :: cs, s :: ss, l :: ls => by rw [Ints_cons, Ints_cons, Ints_cons, zip3P, List.map_cons, zip3_wts cs ss ls]; rfl
theorem zip3_mem : ∀ {cs ss ls : List Int} {q : PV}, q ∈ zip3P (Ints cs) (Ints ss) (Ints ls) → ∃ c s l : Int, q = .tup [.int c, .int s, .int l]
  | [], ss, ls, q, h => by simp [Ints_nil, zip3P] at h
  | c :: cs, [], ls, q, h => by simp [Ints_nil, Ints_cons, zip3P] at h
  | c :: cs, s :: ss, [], q, h => by simp [Ints_nil, Ints_cons, zip3P] at h
  | c :: cs, s :: ss, l :: ls, q, h => by
    rw [Ints_cons, Ints_cons, Ints_cons, zip3P] at h
    rcases List.mem_cons.mp h with rfl | h
    · exact ⟨_, _, _, rfl⟩
    · exact zip3_mem h
def Rws (rs : List (List Int)) : List PV := rs.map fun r => .lst (Ints r)
def Tps (rs : List (List Int)) : List PV := rs.map fun r => .tup (Ints r)
def thr : List Int → List (List Int) → List (List Int)
  | _, [] => []
  | h, r :: rs => lvs none h r :: thr (lvs none h r) rs
def outL : List Int → List (List Int) → List Int
  | h, [] => h
  | h, r :: rs => outL (lvs none h r) rs
theorem thr_out : ∀ (h : List Int) (r : List Int) (rs : List (List Int)), ∃ f, thr h (r :: rs) = f ++ [outL h (r :: rs)]
  | h, r, [] => ⟨[], rfl⟩
  | h, r, s :: rs => by
    obtain ⟨f, e⟩ := thr_out (lvs none h r) s rs
    refine ⟨lvs none h r :: f, ?_⟩
    rw [thr, e]; rfl
structure Ds (cs : List Int) (rs : List (List Int)) : Prop where
  l1 : 1 ≤ rs.length
  l2 : rs.length ≤ 6
  ln : ∀ r ∈ rs, Ln cs r
theorem Rws_len (rs : List (List Int)) : (Rws rs).length = rs.length := by unfold Rws; rw [List.length_map]
theorem Tps_len (rs : List (List Int)) : (Tps rs).length = rs.length := by unfold Tps; rw [List.length_map]
def Ams (os : List (Option Int)) : List PV := os.map am
theorem Ams_len (os : List (Option Int)) : (Ams os).length = os.length := by unfold Ams; rw [List.length_map]
theorem Ints_Ams (ns : List Int) : Ints ns = Ams (ns.map some) := by unfold Ints Ams; rw [List.map_map]; rfl
theorem Ams_mem {os : List (Option Int)} {p : PV} (h : p ∈ Ams os) : ∃ c, c ∈ os ∧ p = am c := by
  obtain ⟨c, hc, e⟩ := List.mem_map.mp h
  exact ⟨c, hc, e.symm⟩
def ltr : Option Int → Option Int → Option Int
  | none, u => u
  | some i, none => some i
  | some i, some j => some (max i j)
def beh : Option Int → Option Int → Option Int
  | some i, some j => some (i + j)
  | _, _ => none
def lat (os : List (Option Int)) : Option Int := os.foldl ltr none
def unA : PV → Option Int
  | .int i => some i
  | _ => none
theorem unA_am (o : Option Int) : unA (am o) = o := by cases o <;> rfl
def hBeh : PV → PV
  | .tup [x, y] => am (beh (unA x) (unA y))
  | _ => .non
theorem zip_beh : ∀ a b : List (Option Int), (zipP (Ams a) (Ams b)).map hBeh = Ams (List.zipWith beh a b)
  | [], b => by simp [Ams, zipP]
  | x :: a, [] => by simp [Ams, zipP]
  | x :: a, y :: b => by
    show (zipP (am x :: Ams a) (am y :: Ams b)).map hBeh = am (beh x y) :: Ams (List.zipWith beh a b)
    rw [zipP, List.map_cons, zip_beh a b]
    show am (beh (unA (am x)) (unA (am y))) :: _ = _
    rw [unA_am, unA_am]
theorem zip_am : ∀ {a b : List (Option Int)} {q : PV}, q ∈ zipP (Ams a) (Ams b) → ∃ x y, q = .tup [am x, am y]
  | [], b, q, h => by simp [Ams, zipP] at h
  | x :: a, [], q, h => by simp [Ams, zipP] at h
  | x :: a, y :: b, q, h => by
    have h' : q ∈ PV.tup [am x, am y] :: zipP (Ams a) (Ams b) := h
    rcases List.mem_cons.mp h' with rfl | h
    · exact ⟨x, y, rfl⟩
    · exact zip_am h
def scal (a b : List (Option Int)) : Option Int := lat (List.zipWith beh a b)
abbrev Mat := List (List (Option Int))
def LL (m : Mat) : List PV := m.map fun r => .lst (Ams r)
def TT (m : Mat) : List PV := m.map fun r => .tup (Ams r)
theorem LL_len (m : Mat) : (LL m).length = m.length := by unfold LL; rw [List.length_map]
theorem TT_len (m : Mat) : (TT m).length = m.length := by unfold TT; rw [List.length_map]
structure Mt (m : Mat) (w : Nat) : Prop where
  l1 : 1 ≤ m.length
  l2 : m.length ≤ 8
  w1 : 1 ≤ w
  w2 : w ≤ 8
  ww : ∀ r ∈ m, r.length = w
def tabF (m : Mat) (w : Nat) : List PV := [.tup (TT m), .int m.length, .int w]
def tab (m : Mat) (w : Nat) : PV := .ins 0 (tabF m w)
theorem row0 {m : Mat} {w : Nat} (h : Mt m w) : ∃ r, L2.atI (LL m) 0 = some (.lst (Ams r)) ∧ r.length = w := by
  match m, h with
  | [], h => exact absurd h.l1 (by simp)
  | r :: m, h =>
    refine ⟨r, ?_, h.ww r List.mem_cons_self⟩
    unfold L2.atI L2.ixN LL
    simp
def hScal (xs : List (Option Int)) : PV → PV
  | .tup r => am (scal (r.map unA) xs)
  | _ => .non
theorem unA_Ams (r : List (Option Int)) : (Ams r).map unA = r := by
  unfold Ams
  rw [List.map_map]
  have : unA ∘ am = id := by funext o; exact unA_am o
  rw [this, List.map_id]
def app (m : Mat) (xs : List (Option Int)) : List (Option Int) := m.map fun r => scal r xs
def cols (B : Mat) (w : Nat) : Mat := (List.range w).map fun j => B.map fun r => r.getD j none
def mul (A B : Mat) (w : Nat) : Mat := A.map fun r => (cols B w).map fun c => scal r c
theorem mul_mt {A B : Mat} {wA wB : Nat} (hA : Mt A wA) (hB : Mt B wB) : Mt (mul A B wB) wB := by
  refine ⟨by unfold mul; rw [List.length_map]; exact hA.l1, by unfold mul; rw [List.length_map]; exact hA.l2, hB.w1, hB.w2, fun r hr => ?_⟩
  unfold mul at hr
  obtain ⟨a, _, rfl⟩ := List.mem_map.mp hr
  rw [List.length_map]; unfold cols; rw [List.length_map, List.length_range]
def hRow (C : Mat) : PV → PV
  | .tup xs => .lst (Ams (C.map fun c => scal (xs.map unA) c))
  | _ => .non
def hSc (r : List (Option Int)) : PV → PV
  | .tup c => am (scal r (c.map unA))
  | _ => .non
theorem map_hSc (r : List (Option Int)) (C : Mat) : (TT C).map (hSc r) = Ams (C.map fun c => scal r c) := by
  unfold TT Ams
  rw [List.map_map, List.map_map]
  refine List.map_congr_left fun c _ => ?_
  show am (scal r ((Ams c).map unA)) = am (scal r c)
  rw [unA_Ams]
theorem map_hRow (A C : Mat) : (TT A).map (hRow C) = LL (A.map fun r => C.map fun c => scal r c) := by
  unfold TT LL
  rw [List.map_map, List.map_map]
  refine List.map_congr_left fun r _ => ?_
  show PV.lst (Ams (C.map fun c => scal ((Ams r).map unA) c)) = _
  rw [unA_Ams]; rfl
def drow (ss : List Int) (a : Nat) : List (Option Int) := (List.range ss.length).map fun f => if f ≤ a then some ((ss.drop f).take (a + 1 - f)).sum else none
def dsk (ss : List Int) : Mat := (List.range ss.length).map fun a => drow ss a
theorem cut_fa {xs : List Int} {f a : Nat} (h1 : f ≤ a) (h2 : a < xs.length) : cutP xs (some (f : Int)) (some ((a : Int) + 1)) = (xs.drop f).take (a + 1 - f) := by
  unfold cutP
  rw [show HT.sIx xs.length 0 (some (f : Int)) = min f xs.length from HT.sIx_nat xs.length 0 f, show HT.sIx xs.length xs.length (some ((a : Int) + 1)) = min (a + 1) xs.length from HT.sIx_nat xs.length xs.length (a + 1)]
  rw [Nat.min_eq_left (by omega), Nat.min_eq_left (by omega)]
theorem dsk_mt {ss : List Int} (h1 : 1 ≤ ss.length) (h2 : ss.length ≤ 8) : Mt (dsk ss) ss.length := by
  refine ⟨by unfold dsk; rw [List.length_map, List.length_range]; exact h1, by unfold dsk; rw [List.length_map, List.length_range]; exact h2, h1, h2, fun r hr => ?_⟩
  unfold dsk at hr
  obtain ⟨a, _, rfl⟩ := List.mem_map.mp hr
  unfold drow
  rw [List.length_map, List.length_range]
theorem draw_is : F__law_draw = F_draw0 := rfl
theorem hand_is : F__law_hand = F_hand0 := rfl
theorem inc_snoc : ∀ {cs : List Int} {t : Int}, inc cs = true → (∀ c ∈ cs, c ≤ t) → inc (cs ++ [t]) = true
  | [], t, _, _ => rfl
  | [a], t, _, h => by
    have := h a List.mem_cons_self
    simp [inc, this]
  | a :: b :: r, t, hi, h => by
    unfold inc at hi
    simp only [Bool.and_eq_true, decide_eq_true_eq] at hi
    have := inc_snoc (t := t) hi.2 fun c hc => h c (List.mem_cons_of_mem _ hc)
    show inc (a :: b :: (r ++ [t])) = true
    unfold inc
    simp only [Bool.and_eq_true, decide_eq_true_eq]
    exact ⟨hi.1, this⟩
theorem ltr_n (a : Option Int) : ltr a none = a := by cases a <;> rfl
theorem ltr_assoc (a b c : Option Int) : ltr (ltr a b) c = ltr a (ltr b c) := by
  cases a <;> cases b <;> cases c <;> simp [ltr]
  all_goals omega
theorem ltr_comm (a b : Option Int) : ltr a b = ltr b a := by
  cases a <;> cases b <;> simp [ltr]
  all_goals omega
theorem beh_n (a : Option Int) : beh a none = none := by cases a <;> rfl
theorem beh_ltr_l (a b c : Option Int) : beh a (ltr b c) = ltr (beh a b) (beh a c) := by
  cases a <;> cases b <;> cases c <;> simp [ltr, beh]
  all_goals omega
theorem beh_ltr_r (a b c : Option Int) : beh (ltr a b) c = ltr (beh a c) (beh b c) := by
  cases a <;> cases b <;> cases c <;> simp [ltr, beh]
  all_goals omega
theorem beh_assoc (a b c : Option Int) : beh (beh a b) c = beh a (beh b c) := by
  cases a <;> cases b <;> cases c <;> simp [beh]
  all_goals omega
theorem fold_ltr : ∀ (xs : List (Option Int)) (a : Option Int), xs.foldl ltr a = ltr a (lat xs)
  | [], a => by simp [lat, ltr_n]
  | x :: xs, a => by
    unfold lat
    rw [List.foldl_cons, List.foldl_cons, fold_ltr xs (ltr a x), fold_ltr xs (ltr none x), ltr_assoc]
    rfl
theorem lat_cons (x : Option Int) (xs : List (Option Int)) : lat (x :: xs) = ltr x (lat xs) := by
  show (x :: xs).foldl ltr none = _
  rw [List.foldl_cons, fold_ltr]; rfl
theorem lat_none {α : Type} : ∀ xs : List α, lat (xs.map fun _ => none) = none
  | [] => rfl
  | x :: xs => by rw [List.map_cons, lat_cons, lat_none xs]; rfl
theorem lat_add {α : Type} (f g : α → Option Int) : ∀ xs : List α, lat (xs.map fun x => ltr (f x) (g x)) = ltr (lat (xs.map f)) (lat (xs.map g))
  | [] => rfl
  | x :: xs => by
    rw [List.map_cons, List.map_cons, List.map_cons, lat_cons, lat_cons, lat_cons, lat_add f g xs]
    rw [ltr_assoc, ltr_assoc]
    congr 1
    rw [← ltr_assoc, ← ltr_assoc, ltr_comm (g x)]
theorem lat_mul {α : Type} (a : Option Int) (f : α → Option Int) : ∀ xs : List α, lat (xs.map fun x => beh a (f x)) = beh a (lat (xs.map f))
  | [] => by simp [lat, beh_n]
  | x :: xs => by rw [List.map_cons, List.map_cons, lat_cons, lat_cons, lat_mul a f xs, beh_ltr_l]
theorem scal_cons (a b : Option Int) (r c : List (Option Int)) : scal (a :: r) (b :: c) = ltr (beh a b) (scal r c) := by
  unfold scal
  rw [List.zipWith_cons_cons, lat_cons]
theorem range_self {w : Nat} {xs : List (Option Int)} (h : xs.length = w) : xs = (List.range w).map fun j => xs.getD j none := by
  subst h
  apply List.ext_getElem?
  intro j
  rw [List.getElem?_map]
  by_cases hj : j < xs.length
  · rw [List.getElem?_range hj, List.getElem?_eq_getElem hj, Option.map_some, List.getD_eq_getElem?_getD, List.getElem?_eq_getElem hj]; rfl
  · rw [List.getElem?_eq_none (by omega), List.getElem?_eq_none (by rw [List.length_range]; omega)]; rfl
theorem scal_range {w : Nat} {b xs : List (Option Int)} (hb : b.length = w) (hx : xs.length = w) : scal b xs = lat ((List.range w).map fun j => beh (b.getD j none) (xs.getD j none)) := by
  have h1 := range_self hb
  have h2 := range_self hx
  unfold scal
  conv => lhs; rw [h1, h2]
  rw [List.zipWith_map]
  congr 1
  rw [List.zipWith_self]
theorem mul_main {w : Nat} (x : Nat → Option Int) : ∀ (r : List (Option Int)) (B : Mat), lat ((List.range w).map fun j => beh (scal r (B.map fun b => b.getD j none)) (x j)) = lat (List.zipWith beh r (B.map fun b => lat ((List.range w).map fun j => beh (b.getD j none) (x j))))
  | [], B => by
    have : ∀ j, beh (scal [] (B.map fun b => b.getD j none)) (x j) = none := fun j => by simp [scal, lat, beh]
    simp only [this]
    rw [lat_none]; simp [lat]
  | a :: r, [] => by
    have : ∀ j, beh (scal (a :: r) (([] : Mat).map fun b => b.getD j none)) (x j) = none := fun j => by simp [scal, lat, beh]
    simp only [this]
    rw [lat_none]; simp [lat]
  | a :: r, b :: B => by
    have h : ∀ j, beh (scal (a :: r) ((b :: B).map fun b => b.getD j none)) (x j) = ltr (beh a (beh (b.getD j none) (x j))) (beh (scal r (B.map fun b => b.getD j none)) (x j)) := fun j => by
      rw [List.map_cons, scal_cons, beh_ltr_r, beh_assoc]
    simp only [h]
    rw [lat_add, lat_mul, mul_main x r B, List.map_cons, List.zipWith_cons_cons, lat_cons]
theorem app_mul {A B : Mat} {w : Nat} {xs : List (Option Int)} (hB : ∀ b ∈ B, b.length = w) (hx : xs.length = w) : app (mul A B w) xs = app A (app B xs) := by
  unfold app mul
  rw [List.map_map]
  refine List.map_congr_left fun r _ => ?_
  show scal ((cols B w).map fun c => scal r c) xs = scal r (B.map fun b => scal b xs)
  have hl : ((cols B w).map fun c => scal r c).length = w := by unfold cols; simp
  have hc : ((cols B w).map fun c => scal r c) = (List.range w).map fun j => scal r (B.map fun b => b.getD j none) := by unfold cols; rw [List.map_map]; rfl
  have hb : (B.map fun b => scal b xs) = B.map fun b => lat ((List.range w).map fun j => beh (b.getD j none) (xs.getD j none)) := List.map_congr_left fun b hb => scal_range (hB b hb) hx
  rw [hb]
  show _ = lat (List.zipWith beh r _)
  rw [← mul_main (w := w) (fun j => xs.getD j none) r B]
  show lat (List.zipWith beh ((cols B w).map fun c => scal r c) xs) = _
  rw [hc]
  conv => lhs; rw [range_self hx]
  rw [List.zipWith_map, List.zipWith_self]
theorem drow_zero (s : Int) (ss : List Int) : drow (s :: ss) 0 = some s :: (List.range ss.length).map fun _ => none := by
  unfold drow
  rw [List.length_cons, List.range_succ_eq_map, List.map_cons, List.map_map]
  congr 1
  · simp
theorem drow_succ (s : Int) (ss : List Int) (a : Nat) : drow (s :: ss) (a + 1) = some (s + (ss.take (a + 1)).sum) :: drow ss a := by
  unfold drow
  rw [List.length_cons, List.range_succ_eq_map, List.map_cons, List.map_map]
  congr 1
  refine List.map_congr_left fun f _ => ?_
  show (if f + 1 ≤ a + 1 then some (((s :: ss).drop (f + 1)).take (a + 1 + 1 - (f + 1))).sum else none) = _
  rw [List.drop_succ_cons, show a + 1 + 1 - (f + 1) = a + 1 - f by omega]
  by_cases h : f ≤ a
  · rw [if_pos h, if_pos (by omega)]
  · rw [if_neg h, if_neg (by omega)]
theorem zip_none : ∀ (n : Nat) (ys : List (Option Int)), lat (List.zipWith beh ((List.range n).map fun _ => none) ys) = none := by
  intro n
  have : ∀ (xs : List Nat) (ys : List (Option Int)), lat (List.zipWith beh (xs.map fun _ => none) ys) = none := by
    intro xs
    induction xs with
    | nil => intro ys; simp [lat]
    | cons x xs ih =>
      intro ys
      cases ys with
      | nil => simp [lat]
      | cons y ys => rw [List.map_cons, List.zipWith_cons_cons, lat_cons, ih]; rfl
  exact this _
theorem lvs_get : ∀ (cs ss : List Int) (l : Option Int) (a : Nat), ss.length = cs.length → a < cs.length → (lvs l cs ss)[a]? = ltr (beh l (some (ss.take (a + 1)).sum)) (scal (drow ss a) (cs.map some))
  | [], ss, l, a, _, h => by simp at h
  | c :: cs, [], l, a, h, _ => by simp at h
  | c :: cs, s :: ss, l, 0, hl, ha => by
    rw [lvs, drow_zero, List.map_cons, scal_cons]
    unfold scal
    rw [zip_none, ltr_n]
    cases l with
    | none => simp [stp, ltr, beh]; omega
    | some b => simp [stp, ltr, beh]; omega
  | c :: cs, s :: ss, l, a + 1, hl, ha => by
    have ih := lvs_get cs ss (some (stp l c s)) a (by simpa using hl) (by simpa using ha)
    rw [lvs, List.getElem?_cons_succ, ih, drow_succ, List.map_cons, scal_cons, List.take_succ_cons, List.sum_cons]
    rw [← ltr_assoc]
    congr 1
    cases l with
    | none => simp [stp, ltr, beh]; omega
    | some b => simp [stp, ltr, beh]; omega
theorem app_dsk {cs ss : List Int} (h : ss.length = cs.length) : app (dsk ss) (cs.map some) = (lvs none cs ss).map some := by
  apply List.ext_getElem?
  intro a
  unfold app dsk
  rw [List.map_map, List.getElem?_map, List.getElem?_map]
  by_cases ha : a < cs.length
  · rw [List.getElem?_range (by omega)]
    have e := lvs_get cs ss none a h ha
    have hl := lvs_len none cs ss h
    rw [List.getElem?_eq_getElem (by omega)] at e ⊢
    show some (scal (drow ss a) (cs.map some)) = some (some _)
    rw [e]; rfl
  · have hl := lvs_len none cs ss h
    rw [List.getElem?_eq_none (by rw [List.length_range]; omega), List.getElem?_eq_none (by omega)]; rfl
theorem lvs_shift (n : Int) : ∀ (cs ss : List Int) (l : Option Int), lvs (l.map (· + n)) (cs.map (· + n)) ss = (lvs l cs ss).map (· + n)
  | [], ss, l => by simp [lvs]
  | c :: cs, [], l => by simp [lvs]
  | c :: cs, s :: ss, l => by
    have e : stp (l.map (· + n)) (c + n) s = stp l c s + n := by cases l <;> simp [stp] <;> omega
    rw [List.map_cons, lvs, lvs, List.map_cons, e]
    congr 1
    exact lvs_shift n cs ss (some (stp l c s))
theorem out_shift (n : Int) : ∀ (rs : List (List Int)) (cs : List Int), outL (cs.map (· + n)) rs = (outL cs rs).map (· + n)
  | [], cs => rfl
  | r :: rs, cs => by
    rw [outL, outL, ← out_shift n rs]
    congr 1
    exact lvs_shift n cs r none
theorem lvs_max : ∀ (cs ds ss : List Int) (l k : Option Int), l.isSome = k.isSome → ds.length = cs.length → lvs (ltr l k) (List.zipWith max cs ds) ss = List.zipWith max (lvs l cs ss) (lvs k ds ss)
  | [], ds, ss, l, k, _, _ => by simp [lvs]
  | c :: cs, [], ss, l, k, _, h => by simp at h
  | c :: cs, d :: ds, [], l, k, _, _ => by simp [lvs]
  | c :: cs, d :: ds, s :: ss, l, k, h, hl => by
    have e : stp (ltr l k) (max c d) s = max (stp l c s) (stp k d s) := by cases l <;> cases k <;> simp [stp, ltr] at h ⊢ <;> omega
    rw [List.zipWith_cons_cons, lvs, lvs, lvs, List.zipWith_cons_cons, e]
    congr 1
    exact lvs_max cs ds ss (some (stp l c s)) (some (stp k d s)) rfl (by simpa using hl)
theorem out_max : ∀ (rs : List (List Int)) (cs ds : List Int), ds.length = cs.length → (∀ r ∈ rs, r.length = cs.length) → outL (List.zipWith max cs ds) rs = List.zipWith max (outL cs rs) (outL ds rs)
  | [], cs, ds, _, _ => rfl
  | r :: rs, cs, ds, h, hr => by
    have h1 := hr r List.mem_cons_self
    have l1 := lvs_len none cs r h1
    have l2 := lvs_len none ds r (by omega)
    rw [outL, outL, outL, ← out_max rs _ _ (by omega) (fun q hq => by rw [l1]; exact hr q (List.mem_cons_of_mem _ hq))]
    congr 1
    exact lvs_max cs ds r none none rfl h
theorem out_len : ∀ (rs : List (List Int)) (cs : List Int), (∀ r ∈ rs, r.length = cs.length) → (outL cs rs).length = cs.length
  | [], cs, _ => rfl
  | r :: rs, cs, h => by
    have l := lvs_len none cs r (h r List.mem_cons_self)
    rw [outL, out_len rs _ fun q hq => by rw [l]; exact h q (List.mem_cons_of_mem _ hq), l]
theorem wts_pos : ∀ (cs ss : List Int) (l : Option Int), ∀ x ∈ wts cs ss (lvs l cs ss), 0 ≤ x
  | [], ss, l, x, h => by simp [wts] at h
  | c :: cs, [], l, x, h => by simp [wts] at h
  | c :: cs, s :: ss, l, x, h => by
    rw [lvs, wts] at h
    rcases List.mem_cons.mp h with rfl | h
    · cases l <;> simp [stp] <;> omega
    · exact wts_pos cs ss _ x h
theorem inc_shift (n : Int) : ∀ {cs : List Int}, inc cs = true → inc (cs.map (· + n)) = true
  | [], _ => rfl
  | [a], _ => rfl
  | a :: b :: r, h => by
    unfold inc at h
    simp only [Bool.and_eq_true, decide_eq_true_eq] at h
    have := inc_shift n h.2
    show inc ((a + n) :: (b + n) :: r.map (· + n)) = true
    unfold inc
    simp only [Bool.and_eq_true, decide_eq_true_eq]
    exact ⟨by omega, this⟩
theorem inc_max : ∀ {cs ds : List Int}, inc cs = true → inc ds = true → inc (List.zipWith max cs ds) = true
  | [], ds, _, _ => by simp [inc]
  | a :: cs, [], _, _ => by simp [inc]
  | [a], b :: ds, _, _ => by simp [inc]
  | a :: a2 :: cs, [b], _, _ => by simp [inc]
  | a :: a2 :: cs, b :: b2 :: ds, h, k => by
    unfold inc at h k
    simp only [Bool.and_eq_true, decide_eq_true_eq] at h k
    have := inc_max h.2 k.2
    show inc (max a b :: max a2 b2 :: List.zipWith max cs ds) = true
    unfold inc
    simp only [Bool.and_eq_true, decide_eq_true_eq]
    exact ⟨by omega, this⟩
theorem ex_list {α : Type} {P : α → Prop} {f : α → PV} : ∀ {qs : List PV}, (∀ q ∈ qs, ∃ a, q = f a ∧ P a) → ∃ as : List α, qs = as.map f ∧ ∀ a ∈ as, P a
  | [], _ => ⟨[], rfl, fun a h => by simp at h⟩
  | q :: qs, h => by
    obtain ⟨a, rfl, ha⟩ := h q List.mem_cons_self
    obtain ⟨as, rfl, hs⟩ := ex_list fun q hq => h q (List.mem_cons_of_mem _ hq)
    refine ⟨a :: as, rfl, fun b hb => ?_⟩
    rcases List.mem_cons.mp hb with rfl | hb
    · exact ha
    · exact hs b hb
theorem mem_of {items qs : List PV} {P : PV → PV → Prop} {R : PV → Prop} (l : qs.length = items.length) (e : ∀ (j : Nat) (p q : PV), items[j]? = some p → qs[j]? = some q → P p q) (i : ∀ p q, P p q → R q) : ∀ q ∈ qs, R q := fun q hq => by
  obtain ⟨j, hj, rfl⟩ := List.getElem_of_mem hq
  exact i _ _ (e j _ _ (List.getElem?_eq_getElem (by omega)) (List.getElem?_eq_getElem hj))
section
variable {x0 x1 x2 x3 x4 x5 x6 x7 x8 x9 x10 x11 x12 x13 x14 x15 x16 x17 x18 : Sl}
def Row (m : Nat) (r : List Int) : Prop := r.length = m ∧ ∀ x ∈ r, 0 ≤ x ∧ x ≤ 5
end
theorem seq_nx {f g : PSF} {ρ ρ1 : List Sl} (h : f ρ = some (.nx, ρ1)) : sSeq f g ρ = g ρ1 := by
  unfold sSeq
  rw [h, Option.bind_some]
def hMax : PV → PV
  | .tup [.int a, .int b] => .int (max a b)
  | _ => .non
theorem zip_max : ∀ a b : List Int, (zipP (Ints a) (Ints b)).map hMax = Ints (List.zipWith max a b)
  | [], b => by simp [Ints_nil, zipP]
  | x :: a, [] => by simp [Ints_nil, Ints_cons, zipP]
  | x :: a, y :: b => by
    rw [Ints_cons, Ints_cons, zipP, List.map_cons, zip_max a b, List.zipWith_cons_cons, Ints_cons]; rfl
theorem zip_ints : ∀ {a b : List Int} {q : PV}, q ∈ zipP (Ints a) (Ints b) → ∃ x y : Int, q = .tup [.int x, .int y]
  | [], b, q, h => by simp [Ints_nil, zipP] at h
  | x :: a, [], q, h => by simp [Ints_nil, Ints_cons, zipP] at h
  | x :: a, y :: b, q, h => by
    rw [Ints_cons, Ints_cons, zipP] at h
    rcases List.mem_cons.mp h with rfl | h
    · exact ⟨x, y, rfl⟩
    · exact zip_ints h
def hAdd (n : Int) : PV → PV
  | .int a => .int (a + n)
  | _ => .non
theorem map_add (n : Int) (cs : List Int) : (Ints cs).map (hAdd n) = Ints (cs.map (· + n)) := by
  unfold Ints
  rw [List.map_map, List.map_map]; rfl
theorem line_of {cs r : List Int} {m : Nat} (h1 : 1 ≤ m) (h2 : m ≤ 8) (hl : cs.length = m) (hi : inc cs = true) (hb : ∀ c ∈ cs, 0 ≤ c ∧ c ≤ 100000) (hr : Row m r) : Ln cs r :=
  ⟨by omega, by omega, by rw [hr.1, hl], hb, fun c hc => by have := hr.2 c hc; omega, hi⟩
theorem eqP_ss (a b : Str) : eqP (.str a) (.str b) = (a == b) := by rw [eqP]
theorem datN_s (n : Nat) (a : Str) : datN n (.str a) = PyData.strOk a := by cases n <;> rfl
theorem zip_self : ∀ {xs : List PV} {p : PV}, p ∈ zipP xs xs → ∃ x, x ∈ xs ∧ p = .tup [x, x]
  | [], p, h => by simp [zipP] at h
  | x :: xs, p, h => by
    rw [zipP] at h
    rcases List.mem_cons.mp h with rfl | h
    · exact ⟨x, List.mem_cons_self, rfl⟩
    · obtain ⟨y, hy, e⟩ := zip_self h
      exact ⟨y, List.mem_cons_of_mem _ hy, e⟩
theorem is_l1 {n : Nat} {xs : List PV} {p : PV} (hp : Sq p xs) (ih : ∀ x ∈ xs, F__law_is_r n [.fz x, .fz x] = some (.fz (.bl true), [.fz x, .fz x])) : F__law_is_l1 (F__law_is_r n) [.fz p, .fz p, .un, .un] = some (.own ((zipP xs xs).map fun _ => .bl true), [.fz p, .fz p, .un, .un]) := by
  refine eLc_map (items := zipP xs xs) (rs := [.fz p, .fz p]) (fun _ => .bl true) (by rcases hp with rfl | rfl <;> simp [fnF, prepP, finP, sNil, sSeq, sIf, sRet, sRetN, sExpr, sSet, sPar, sPar3, sAsg, sSetIx, sFor, gNm, gTp, gsNil, gsCons, eVar, ePk, eMv, eBor, eC, eBin, eNeg, eAndF, eOrF, eNotF, eIf, eChain, eTup, eLst, eNary, eCall, eMeth, eMake, eFld, eSl, oSome, oNone, aNil, aCons, tOf, tAndF, tOrF, tNotF, cont, conts, tmpOf, valOf, valsOf, toVl, Vl.sl, putB, iSeq, seqOf, iRange1, iRange2, iZip2, iZip3, iEnum, opAdd, opSub, opMul, opMod, opFdiv, opPow, opEq, opNe, opLt, opLe, opGt, opGe, opCmp, opIs, opIsNot, opIx, opSl, isNon, clLen, clAbs, clInt, clMax, clMin, clMax2, clMin2, clSum, clAll, clAny, clTuple, clList, clIsi, isTy, isAny, tyP, subTy, eAppend, eExtend, datN_i, datN_n, datN_b, datN_l, datN_t, datNs_Ints, datNs_nil, eqP_ii, eqP_ll, eqP_tt, eqP_nn, eqP_bb, eqPs_Ints, eqPs_nn, eqPs_nc, eqPs_cn, lineN]) (by simp [fnF, prepP, finP, sNil, sSeq, sIf, sRet, sRetN, sExpr, sSet, sPar, sPar3, sAsg, sSetIx, sFor, gNm, gTp, gsNil, gsCons, eVar, ePk, eMv, eBor, eC, eBin, eNeg, eAndF, eOrF, eNotF, eIf, eChain, eTup, eLst, eNary, eCall, eMeth, eMake, eFld, eSl, oSome, oNone, aNil, aCons, tOf, tAndF, tOrF, tNotF, cont, conts, tmpOf, valOf, valsOf, toVl, Vl.sl, putB, iSeq, seqOf, iRange1, iRange2, iZip2, iZip3, iEnum, opAdd, opSub, opMul, opMod, opFdiv, opPow, opEq, opNe, opLt, opLe, opGt, opGe, opCmp, opIs, opIsNot, opIx, opSl, isNon, clLen, clAbs, clInt, clMax, clMin, clMax2, clMin2, clSum, clAll, clAny, clTuple, clList, clIsi, isTy, isAny, tyP, subTy, eAppend, eExtend, datN_i, datN_n, datN_b, datN_l, datN_t, datNs_Ints, datNs_nil, eqP_ii, eqP_ll, eqP_tt, eqP_nn, eqP_bb, eqPs_Ints, eqPs_nn, eqPs_nc, eqPs_cn, lineN]) (by decide) (by simp) fun z hz => ?_
  obtain ⟨x, hx, rfl⟩ := zip_self hz
  refine ⟨[.fz x, .fz x], .fz (.bl true), [.fz x, .fz x], ?_⟩
  simp [fnF, prepP, finP, sNil, sSeq, sIf, sRet, sRetN, sExpr, sSet, sPar, sPar3, sAsg, sSetIx, sFor, gNm, gTp, gsNil, gsCons, eVar, ePk, eMv, eBor, eC, eBin, eNeg, eAndF, eOrF, eNotF, eIf, eChain, eTup, eLst, eNary, eCall, eMeth, eMake, eFld, eSl, oSome, oNone, aNil, aCons, tOf, tAndF, tOrF, tNotF, cont, conts, tmpOf, valOf, valsOf, toVl, Vl.sl, putB, iSeq, seqOf, iRange1, iRange2, iZip2, iZip3, iEnum, opAdd, opSub, opMul, opMod, opFdiv, opPow, opEq, opNe, opLt, opLe, opGt, opGe, opCmp, opIs, opIsNot, opIx, opSl, isNon, clLen, clAbs, clInt, clMax, clMin, clMax2, clMin2, clSum, clAll, clAny, clTuple, clList, clIsi, isTy, isAny, tyP, subTy, eAppend, eExtend, datN_i, datN_n, datN_b, datN_l, datN_t, datNs_Ints, datNs_nil, eqP_ii, eqP_ll, eqP_tt, eqP_nn, eqP_bb, eqPs_Ints, eqPs_nn, eqPs_nc, eqPs_cn, lineN, wipeS, backS, ih x hx]
theorem S_is_r : ∀ (n : Nat) (p : PV), datN n p = true → F__law_is_r (n + 1) [.fz p, .fz p] = some (.fz (.bl true), [.fz p, .fz p]) := by
  intro n
  induction n with
  | zero =>
    intro p h
    cases p with
    | non => simp [F__law_is_r, F__law_is_s, fnF, prepP, finP, sNil, sSeq, sIf, sRet, sRetN, sExpr, sSet, sPar, sPar3, sAsg, sSetIx, sFor, gNm, gTp, gsNil, gsCons, eVar, ePk, eMv, eBor, eC, eBin, eNeg, eAndF, eOrF, eNotF, eIf, eChain, eTup, eLst, eNary, eCall, eMeth, eMake, eFld, eSl, oSome, oNone, aNil, aCons, tOf, tAndF, tOrF, tNotF, cont, conts, tmpOf, valOf, valsOf, toVl, Vl.sl, putB, iSeq, seqOf, iRange1, iRange2, iZip2, iZip3, iEnum, opAdd, opSub, opMul, opMod, opFdiv, opPow, opEq, opNe, opLt, opLe, opGt, opGe, opCmp, opIs, opIsNot, opIx, opSl, isNon, clLen, clAbs, clInt, clMax, clMin, clMax2, clMin2, clSum, clAll, clAny, clTuple, clList, clIsi, isTy, isAny, tyP, subTy, eAppend, eExtend, datN_i, datN_n, datN_b, datN_l, datN_t, datNs_Ints, datNs_nil, eqP_ii, eqP_ll, eqP_tt, eqP_nn, eqP_bb, eqPs_Ints, eqPs_nn, eqPs_nc, eqPs_cn, lineN]
    | bl b => simp [F__law_is_r, F__law_is_s, fnF, prepP, finP, sNil, sSeq, sIf, sRet, sRetN, sExpr, sSet, sPar, sPar3, sAsg, sSetIx, sFor, gNm, gTp, gsNil, gsCons, eVar, ePk, eMv, eBor, eC, eBin, eNeg, eAndF, eOrF, eNotF, eIf, eChain, eTup, eLst, eNary, eCall, eMeth, eMake, eFld, eSl, oSome, oNone, aNil, aCons, tOf, tAndF, tOrF, tNotF, cont, conts, tmpOf, valOf, valsOf, toVl, Vl.sl, putB, iSeq, seqOf, iRange1, iRange2, iZip2, iZip3, iEnum, opAdd, opSub, opMul, opMod, opFdiv, opPow, opEq, opNe, opLt, opLe, opGt, opGe, opCmp, opIs, opIsNot, opIx, opSl, isNon, clLen, clAbs, clInt, clMax, clMin, clMax2, clMin2, clSum, clAll, clAny, clTuple, clList, clIsi, isTy, isAny, tyP, subTy, eAppend, eExtend, datN_i, datN_n, datN_b, datN_l, datN_t, datNs_Ints, datNs_nil, eqP_ii, eqP_ll, eqP_tt, eqP_nn, eqP_bb, eqPs_Ints, eqPs_nn, eqPs_nc, eqPs_cn, lineN]
    | int i => simp [F__law_is_r, F__law_is_s, fnF, prepP, finP, sNil, sSeq, sIf, sRet, sRetN, sExpr, sSet, sPar, sPar3, sAsg, sSetIx, sFor, gNm, gTp, gsNil, gsCons, eVar, ePk, eMv, eBor, eC, eBin, eNeg, eAndF, eOrF, eNotF, eIf, eChain, eTup, eLst, eNary, eCall, eMeth, eMake, eFld, eSl, oSome, oNone, aNil, aCons, tOf, tAndF, tOrF, tNotF, cont, conts, tmpOf, valOf, valsOf, toVl, Vl.sl, putB, iSeq, seqOf, iRange1, iRange2, iZip2, iZip3, iEnum, opAdd, opSub, opMul, opMod, opFdiv, opPow, opEq, opNe, opLt, opLe, opGt, opGe, opCmp, opIs, opIsNot, opIx, opSl, isNon, clLen, clAbs, clInt, clMax, clMin, clMax2, clMin2, clSum, clAll, clAny, clTuple, clList, clIsi, isTy, isAny, tyP, subTy, eAppend, eExtend, datN_i, datN_n, datN_b, datN_l, datN_t, datNs_Ints, datNs_nil, eqP_ii, eqP_ll, eqP_tt, eqP_nn, eqP_bb, eqPs_Ints, eqPs_nn, eqPs_nc, eqPs_cn, lineN]
    | str x => 
      rw [datN_s] at h
      simp [F__law_is_r, F__law_is_s, fnF, prepP, finP, sNil, sSeq, sIf, sRet, sRetN, sExpr, sSet, sPar, sPar3, sAsg, sSetIx, sFor, gNm, gTp, gsNil, gsCons, eVar, ePk, eMv, eBor, eC, eBin, eNeg, eAndF, eOrF, eNotF, eIf, eChain, eTup, eLst, eNary, eCall, eMeth, eMake, eFld, eSl, oSome, oNone, aNil, aCons, tOf, tAndF, tOrF, tNotF, cont, conts, tmpOf, valOf, valsOf, toVl, Vl.sl, putB, iSeq, seqOf, iRange1, iRange2, iZip2, iZip3, iEnum, opAdd, opSub, opMul, opMod, opFdiv, opPow, opEq, opNe, opLt, opLe, opGt, opGe, opCmp, opIs, opIsNot, opIx, opSl, isNon, clLen, clAbs, clInt, clMax, clMin, clMax2, clMin2, clSum, clAll, clAny, clTuple, clList, clIsi, isTy, isAny, tyP, subTy, eAppend, eExtend, datN_i, datN_n, datN_b, datN_l, datN_t, datNs_Ints, datNs_nil, eqP_ii, eqP_ll, eqP_tt, eqP_nn, eqP_bb, eqPs_Ints, eqPs_nn, eqPs_nc, eqPs_cn, lineN, eqP_ss, datN_s, h]
    | _ => simp [datN] at h
  | succ n ih =>
    intro p h
    have hs : ∀ xs, datNs n xs = true → ∀ x ∈ xs, F__law_is_r (n + 1) [.fz x, .fz x] = some (.fz (.bl true), [.fz x, .fz x]) := fun xs hd x hx => ih x (by rw [datNs_all] at hd; exact List.all_eq_true.mp hd x hx)
    cases p with
    | non => simp [F__law_is_r, F__law_is_s, fnF, prepP, finP, sNil, sSeq, sIf, sRet, sRetN, sExpr, sSet, sPar, sPar3, sAsg, sSetIx, sFor, gNm, gTp, gsNil, gsCons, eVar, ePk, eMv, eBor, eC, eBin, eNeg, eAndF, eOrF, eNotF, eIf, eChain, eTup, eLst, eNary, eCall, eMeth, eMake, eFld, eSl, oSome, oNone, aNil, aCons, tOf, tAndF, tOrF, tNotF, cont, conts, tmpOf, valOf, valsOf, toVl, Vl.sl, putB, iSeq, seqOf, iRange1, iRange2, iZip2, iZip3, iEnum, opAdd, opSub, opMul, opMod, opFdiv, opPow, opEq, opNe, opLt, opLe, opGt, opGe, opCmp, opIs, opIsNot, opIx, opSl, isNon, clLen, clAbs, clInt, clMax, clMin, clMax2, clMin2, clSum, clAll, clAny, clTuple, clList, clIsi, isTy, isAny, tyP, subTy, eAppend, eExtend, datN_i, datN_n, datN_b, datN_l, datN_t, datNs_Ints, datNs_nil, eqP_ii, eqP_ll, eqP_tt, eqP_nn, eqP_bb, eqPs_Ints, eqPs_nn, eqPs_nc, eqPs_cn, lineN]
    | bl b => simp [F__law_is_r, F__law_is_s, fnF, prepP, finP, sNil, sSeq, sIf, sRet, sRetN, sExpr, sSet, sPar, sPar3, sAsg, sSetIx, sFor, gNm, gTp, gsNil, gsCons, eVar, ePk, eMv, eBor, eC, eBin, eNeg, eAndF, eOrF, eNotF, eIf, eChain, eTup, eLst, eNary, eCall, eMeth, eMake, eFld, eSl, oSome, oNone, aNil, aCons, tOf, tAndF, tOrF, tNotF, cont, conts, tmpOf, valOf, valsOf, toVl, Vl.sl, putB, iSeq, seqOf, iRange1, iRange2, iZip2, iZip3, iEnum, opAdd, opSub, opMul, opMod, opFdiv, opPow, opEq, opNe, opLt, opLe, opGt, opGe, opCmp, opIs, opIsNot, opIx, opSl, isNon, clLen, clAbs, clInt, clMax, clMin, clMax2, clMin2, clSum, clAll, clAny, clTuple, clList, clIsi, isTy, isAny, tyP, subTy, eAppend, eExtend, datN_i, datN_n, datN_b, datN_l, datN_t, datNs_Ints, datNs_nil, eqP_ii, eqP_ll, eqP_tt, eqP_nn, eqP_bb, eqPs_Ints, eqPs_nn, eqPs_nc, eqPs_cn, lineN]
    | int i => simp [F__law_is_r, F__law_is_s, fnF, prepP, finP, sNil, sSeq, sIf, sRet, sRetN, sExpr, sSet, sPar, sPar3, sAsg, sSetIx, sFor, gNm, gTp, gsNil, gsCons, eVar, ePk, eMv, eBor, eC, eBin, eNeg, eAndF, eOrF, eNotF, eIf, eChain, eTup, eLst, eNary, eCall, eMeth, eMake, eFld, eSl, oSome, oNone, aNil, aCons, tOf, tAndF, tOrF, tNotF, cont, conts, tmpOf, valOf, valsOf, toVl, Vl.sl, putB, iSeq, seqOf, iRange1, iRange2, iZip2, iZip3, iEnum, opAdd, opSub, opMul, opMod, opFdiv, opPow, opEq, opNe, opLt, opLe, opGt, opGe, opCmp, opIs, opIsNot, opIx, opSl, isNon, clLen, clAbs, clInt, clMax, clMin, clMax2, clMin2, clSum, clAll, clAny, clTuple, clList, clIsi, isTy, isAny, tyP, subTy, eAppend, eExtend, datN_i, datN_n, datN_b, datN_l, datN_t, datNs_Ints, datNs_nil, eqP_ii, eqP_ll, eqP_tt, eqP_nn, eqP_bb, eqPs_Ints, eqPs_nn, eqPs_nc, eqPs_cn, lineN]
    | str x => 
      rw [datN_s] at h
      simp [F__law_is_r, F__law_is_s, fnF, prepP, finP, sNil, sSeq, sIf, sRet, sRetN, sExpr, sSet, sPar, sPar3, sAsg, sSetIx, sFor, gNm, gTp, gsNil, gsCons, eVar, ePk, eMv, eBor, eC, eBin, eNeg, eAndF, eOrF, eNotF, eIf, eChain, eTup, eLst, eNary, eCall, eMeth, eMake, eFld, eSl, oSome, oNone, aNil, aCons, tOf, tAndF, tOrF, tNotF, cont, conts, tmpOf, valOf, valsOf, toVl, Vl.sl, putB, iSeq, seqOf, iRange1, iRange2, iZip2, iZip3, iEnum, opAdd, opSub, opMul, opMod, opFdiv, opPow, opEq, opNe, opLt, opLe, opGt, opGe, opCmp, opIs, opIsNot, opIx, opSl, isNon, clLen, clAbs, clInt, clMax, clMin, clMax2, clMin2, clSum, clAll, clAny, clTuple, clList, clIsi, isTy, isAny, tyP, subTy, eAppend, eExtend, datN_i, datN_n, datN_b, datN_l, datN_t, datNs_Ints, datNs_nil, eqP_ii, eqP_ll, eqP_tt, eqP_nn, eqP_bb, eqPs_Ints, eqPs_nn, eqPs_nc, eqPs_cn, lineN, eqP_ss, datN_s, h]
    | tup xs =>
      have e := is_l1 (p := .tup xs) (.inr rfl) (hs xs h)
      rw [show n + 1 + 1 = (n + 1) + 1 from rfl]
      unfold F__law_is_r
      simp [F__law_is_s, fnF, prepP, finP, sNil, sSeq, sIf, sRet, sRetN, sExpr, sSet, sPar, sPar3, sAsg, sSetIx, sFor, gNm, gTp, gsNil, gsCons, eVar, ePk, eMv, eBor, eC, eBin, eNeg, eAndF, eOrF, eNotF, eIf, eChain, eTup, eLst, eNary, eCall, eMeth, eMake, eFld, eSl, oSome, oNone, aNil, aCons, tOf, tAndF, tOrF, tNotF, cont, conts, tmpOf, valOf, valsOf, toVl, Vl.sl, putB, iSeq, seqOf, iRange1, iRange2, iZip2, iZip3, iEnum, opAdd, opSub, opMul, opMod, opFdiv, opPow, opEq, opNe, opLt, opLe, opGt, opGe, opCmp, opIs, opIsNot, opIx, opSl, isNon, clLen, clAbs, clInt, clMax, clMin, clMax2, clMin2, clSum, clAll, clAny, clTuple, clList, clIsi, isTy, isAny, tyP, subTy, eAppend, eExtend, datN_i, datN_n, datN_b, datN_l, datN_t, datNs_Ints, datNs_nil, eqP_ii, eqP_ll, eqP_tt, eqP_nn, eqP_bb, eqPs_Ints, eqPs_nn, eqPs_nc, eqPs_cn, lineN, e, blsOf_true, all_true]
    | lst xs =>
      have e := is_l1 (p := .lst xs) (.inl rfl) (hs xs h)
      rw [show n + 1 + 1 = (n + 1) + 1 from rfl]
      unfold F__law_is_r
      simp [F__law_is_s, fnF, prepP, finP, sNil, sSeq, sIf, sRet, sRetN, sExpr, sSet, sPar, sPar3, sAsg, sSetIx, sFor, gNm, gTp, gsNil, gsCons, eVar, ePk, eMv, eBor, eC, eBin, eNeg, eAndF, eOrF, eNotF, eIf, eChain, eTup, eLst, eNary, eCall, eMeth, eMake, eFld, eSl, oSome, oNone, aNil, aCons, tOf, tAndF, tOrF, tNotF, cont, conts, tmpOf, valOf, valsOf, toVl, Vl.sl, putB, iSeq, seqOf, iRange1, iRange2, iZip2, iZip3, iEnum, opAdd, opSub, opMul, opMod, opFdiv, opPow, opEq, opNe, opLt, opLe, opGt, opGe, opCmp, opIs, opIsNot, opIx, opSl, isNon, clLen, clAbs, clInt, clMax, clMin, clMax2, clMin2, clSum, clAll, clAny, clTuple, clList, clIsi, isTy, isAny, tyP, subTy, eAppend, eExtend, datN_i, datN_n, datN_b, datN_l, datN_t, datNs_Ints, datNs_nil, eqP_ii, eqP_ll, eqP_tt, eqP_nn, eqP_bb, eqPs_Ints, eqPs_nn, eqPs_nc, eqPs_cn, lineN, e, blsOf_true, all_true]
    | _ => simp [datN] at h
theorem S_is {p : PV} (h : datN 7 p = true) : F__law_is [.fz p, .fz p] = some (.fz (.bl true), [.fz p, .fz p]) := S_is_r 7 p h
def known (os : List (Option Int)) : List Int := os.filterMap id
theorem lat_known : ∀ os : List (Option Int), lat os = if (known os).isEmpty then none else some (maxL (known os))
  | [] => rfl
  | none :: os => by
    rw [lat_cons, lat_known os]
    show ltr none _ = _
    have : known (none :: os) = known os := rfl
    rw [this]; rfl
  | some a :: os => by
    rw [lat_cons, lat_known os]
    have : known (some a :: os) = a :: known os := rfl
    rw [this]
    cases hk : known os with
    | nil => simp [ltr, maxL]
    | cons b bs => simp [ltr, maxL]
def isK (p : PV) : Bool := !isNon p
theorem known_filter : ∀ os : List (Option Int), ((Ams os).filter isK).map (fun p => p) = Ints (known os)
  | [] => rfl
  | none :: os => by
    have := known_filter os
    show ((PV.non :: Ams os).filter isK).map _ = _
    rw [List.filter_cons_of_neg (by decide)]
    exact this
  | some a :: os => by
    have := known_filter os
    show ((PV.int a :: Ams os).filter isK).map _ = _
    rw [List.filter_cons_of_pos rfl, List.map_cons, this]; rfl
def hScL (xs : List (Option Int)) : PV → PV
  | .lst r => am (scal (r.map unA) xs)
  | _ => .non
def prs : List (Option Int) → List (Option Int) → List (Int × Option Int)
  | some a :: cs, g :: gs => (a, g) :: prs cs gs
  | none :: cs, _ :: gs => prs cs gs
  | _, _ => []
def pPV (ps : List (Int × Option Int)) : List PV := ps.map fun x => .tup [.int x.1, am x.2]
def difs : List (Int × Option Int) → List Int
  | (a, some g) :: ps => (g - a) :: difs ps
  | (_, none) :: ps => difs ps
  | [] => []
def anyNone (ps : List (Int × Option Int)) : Bool := ps.any fun x => x.2.isNone
def grs (ps : List (Int × Option Int)) : Option (Option Int) := if ps.isEmpty then none else if anyNone ps then some none else some (some (minL (difs ps)))
def ans : Option (Option Int) → PV
  | none => .str "any"
  | some o => am o
def hP1 : PV → PV
  | .tup [x, y] => .tup [x, y]
  | _ => .non
def tbB : PV → Bool
  | .tup [x, _] => isK x
  | _ => false
theorem zip_prs : ∀ a b : List (Option Int), ((zipP (Ams a) (Ams b)).filter tbB).map hP1 = pPV (prs a b)
  | [], b => by simp [Ams, zipP, prs, pPV]
  | none :: a, [] => by simp [Ams, zipP, prs, pPV]
  | some x :: a, [] => by simp [Ams, zipP, prs, pPV]
  | none :: a, y :: b => by
    show ((PV.tup [.non, am y] :: zipP (Ams a) (Ams b)).filter tbB).map hP1 = pPV (prs a b)
    rw [List.filter_cons_of_neg (by simp [tbB, isK, isNon]), zip_prs a b]
  | some x :: a, y :: b => by
    show ((PV.tup [.int x, am y] :: zipP (Ams a) (Ams b)).filter tbB).map hP1 = pPV ((x, y) :: prs a b)
    rw [List.filter_cons_of_pos rfl, List.map_cons, zip_prs a b]; rfl
theorem pPV_mem {ps : List (Int × Option Int)} {p : PV} (h : p ∈ pPV ps) : ∃ a g, (a, g) ∈ ps ∧ p = .tup [.int a, am g] := by
  obtain ⟨⟨a, g⟩, hc, e⟩ := List.mem_map.mp h
  exact ⟨a, g, hc, e.symm⟩
def hN : PV → PV
  | .tup [_, y] => .bl (isNon y)
  | _ => .non
def Bls (bs : List Bool) : List PV := bs.map .bl
def nons (ps : List (Int × Option Int)) : List Bool := ps.map fun x => x.2.isNone
theorem map_hN : ∀ ps : List (Int × Option Int), (pPV ps).map hN = Bls (nons ps)
  | [] => rfl
  | (a, none) :: ps => by
    have := map_hN ps
    show PV.bl true :: (pPV ps).map hN = _
    rw [this]; rfl
  | (a, some g) :: ps => by
    have := map_hN ps
    show PV.bl false :: (pPV ps).map hN = _
    rw [this]; rfl
theorem blsOf_map : ∀ bs : List Bool, blsOf (Bls bs) = some bs
  | [] => rfl
  | b :: bs => by
    have := blsOf_map bs
    show blsOf (PV.bl b :: Bls bs) = _
    unfold blsOf
    rw [this]; rfl
def hD : PV → PV
  | .tup [.int a, .int g] => .int (g - a)
  | _ => .non
theorem map_hD : ∀ ps : List (Int × Option Int), anyNone ps = false → (pPV ps).map hD = Ints (difs ps)
  | [], _ => rfl
  | (a, none) :: ps, h => by simp [anyNone] at h
  | (a, some g) :: ps, h => by
    have := map_hD ps (by simpa [anyNone] using h)
    show PV.int (g - a) :: (pPV ps).map hD = _
    rw [this]; rfl
theorem anyNone_all {ps : List (Int × Option Int)} (h : anyNone ps = false) {a : Int} {g : Option Int} (hm : (a, g) ∈ ps) : ∃ x, g = some x := by
  cases g with
  | some x => exact ⟨x, rfl⟩
  | none =>
    exfalso
    have : anyNone ps = true := by
      unfold anyNone
      rw [List.any_eq_true]
      exact ⟨_, hm, rfl⟩
    rw [h] at this; cases this
theorem any_id (bs : List Bool) : bs.any id = bs.any fun b => b := rfl
theorem eqPs_pPV (ps : List (Int × Option Int)) : eqPs (pPV ps) [] = ps.isEmpty := by
  cases ps with
  | nil => exact eqPs_nn
  | cons x ps => exact eqPs_cn _ _
theorem datN_am (n : Nat) (o : Option Int) : datN n (am o) = true := by cases o with | none => exact datN_n n | some i => exact datN_i n i
theorem datNs_pPV (n : Nat) : ∀ ps : List (Int × Option Int), datNs (n + 1) (pPV ps) = true
  | [] => rfl
  | (a, g) :: ps => by
    show datNs (n + 1) (.tup [.int a, am g] :: pPV ps) = true
    rw [datNs_cons, datNs_pPV n ps, datN_t, datNs_cons, datNs_cons, datN_i, datN_am, datNs_nil]; rfl
theorem difs_nil {ps : List (Int × Option Int)} (h : anyNone ps = false) (hp : ps.isEmpty = false) : difs ps ≠ [] := by
  cases ps with
  | nil => cases hp
  | cons x ps =>
    obtain ⟨a, g⟩ := x
    cases g with
    | none => simp [anyNone] at h
    | some g => simp [difs]
def bfv : Option (Option Int) → PV
  | none => .tup [.bl true, .non]
  | some o => .tup [.bl false, am o]
theorem eqP_ns (x : Str) : eqP .non (.str x) = false := by rw [eqP] <;> intros <;> simp_all
theorem eqP_is (i : Int) (x : Str) : eqP (.int i) (.str x) = false := by rw [eqP] <;> intros <;> simp_all
theorem eqP_ni (i : Int) : eqP .non (.int i) = false := by rw [eqP] <;> intros <;> simp_all
theorem eqP_in (i : Int) : eqP (.int i) .non = false := by rw [eqP] <;> intros <;> simp_all
theorem eqP_am (x y : Option Int) : eqP (am x) (am y) = (x == y) := by
  cases x <;> cases y <;> simp [am, eqP_nn, eqP_ni, eqP_in, eqP_ii]
theorem eqPs_Ams : ∀ a b : List (Option Int), eqPs (Ams a) (Ams b) = (a == b)
  | [], [] => eqPs_nn
  | [], y :: b => eqPs_nc _ _
  | x :: a, [] => eqPs_cn _ _
  | x :: a, y :: b => by
    show eqPs (am x :: Ams a) (am y :: Ams b) = _
    rw [eqPs_cc, eqP_am, eqPs_Ams a b]; rfl
theorem datNs_Ams (n : Nat) : ∀ os : List (Option Int), datNs n (Ams os) = true
  | [] => datNs_nil n
  | o :: os => by
    show datNs n (am o :: Ams os) = true
    rw [datNs_cons, datN_am, datNs_Ams n os]; rfl
theorem any_ok : PyData.strOk "any" = true := by decide +kernel
def col (m : Mat) (j : Nat) : List (Option Int) := m.map fun r => r.getD j none
def told (m : Mat) (w : Nat) (gs : List (Option Int)) : List (Option (Option Int)) := (List.range w).map fun j => grs (prs (col m j) gs)
def Anss (t : List (Option (Option Int))) : List PV := t.map ans
theorem Anss_len (t : List (Option (Option Int))) : (Anss t).length = t.length := by unfold Anss; rw [List.length_map]
theorem told_len (m : Mat) (w : Nat) (gs : List (Option Int)) : (told m w gs).length = w := by unfold told; rw [List.length_map, List.length_range]
def fill (t : List (Option (Option Int))) : List (Option Int) := t.map fun x => match x with | none => some 0 | some o => o
def hF : PV → PV
  | .str _ => .int 0
  | p => p
theorem map_hF (t : List (Option (Option Int))) : (Anss t).map hF = Ams (fill t) := by
  unfold Anss Ams fill
  rw [List.map_map, List.map_map]
  refine List.map_congr_left fun x _ => ?_
  cases x with
  | none => rfl
  | some o => cases o <;> rfl
theorem Anss_mem {t : List (Option (Option Int))} {p : PV} (h : p ∈ Anss t) : ∃ x, p = ans x := by
  obtain ⟨c, hc, e⟩ := List.mem_map.mp h
  exact ⟨c, e.symm⟩
theorem fill_len (t : List (Option (Option Int))) : (fill t).length = t.length := by unfold fill; rw [List.length_map]
def solv (m : Mat) (w : Nat) (gs : List (Option Int)) : PV := if app m (fill (told m w gs)) = gs then .tup (Ams (fill (told m w gs))) else .non
def fne : List (Option Int) → List (Option Int) → Option Nat
  | a :: as, b :: bs => if a = b then (fne as bs).map (· + 1) else some 0
  | _, _ => none
def oNat : Option Nat → PV
  | none => .non
  | some j => .int (j : Nat)
theorem S_is_row_non : F_is_row [.fz .non] = some (.fz (.bl false), [.fz .non]) := by simp [F_is_row, fnF, prepP, finP, sNil, sSeq, sIf, sRet, sRetN, sExpr, sSet, sPar, sPar3, sAsg, sSetIx, sFor, gNm, gTp, gsNil, gsCons, eVar, ePk, eMv, eBor, eC, eBin, eNeg, eAndF, eOrF, eNotF, eIf, eChain, eTup, eLst, eNary, eCall, eMeth, eMake, eFld, eSl, oSome, oNone, aNil, aCons, tOf, tAndF, tOrF, tNotF, cont, conts, tmpOf, valOf, valsOf, toVl, Vl.sl, putB, iSeq, seqOf, iRange1, iRange2, iZip2, iZip3, iEnum, opAdd, opSub, opMul, opMod, opFdiv, opPow, opEq, opNe, opLt, opLe, opGt, opGe, opCmp, opIs, opIsNot, opIx, opSl, isNon, clLen, clAbs, clInt, clMax, clMin, clMax2, clMin2, clSum, clAll, clAny, clTuple, clList, clIsi, isTy, isAny, tyP, subTy, eAppend, eExtend, L2.atI, L2.ixN, datN_i, datN_n, datN_b, datN_l, datN_t, datNs_Ints, datNs_nil, eqP_ii, eqP_ll, eqP_tt, eqP_nn, eqP_bb, eqPs_Ints, eqPs_nn, eqPs_nc, eqPs_cn, lineN]
def tbG (j : Nat) : PV → Bool
  | .tup [.lst r, _] => isK (r.getD j .non)
  | _ => false
def hG (j : Nat) : PV → PV
  | .tup [.lst r, y] => .tup [r.getD j .non, y]
  | _ => .non
theorem getD_am (r : List (Option Int)) (j : Nat) : (Ams r).getD j .non = am (r.getD j none) := by
  unfold Ams
  rw [List.getD_eq_getElem?_getD, List.getD_eq_getElem?_getD, List.getElem?_map]
  cases r[j]? <;> rfl
theorem zip_G (j : Nat) : ∀ (m : Mat) (gs : List (Option Int)), ((zipP (LL m) (Ams gs)).filter (tbG j)).map (hG j) = pPV (prs (col m j) gs)
  | [], gs => by simp [LL, zipP, prs, pPV, col]
  | r :: m, [] => by
    cases h : r.getD j none <;> simp [LL, Ams, zipP, prs, pPV, col, h]
  | r :: m, y :: gs => by
    have ih := zip_G j m gs
    show ((PV.tup [.lst (Ams r), am y] :: zipP (LL m) (Ams gs)).filter (tbG j)).map (hG j) = pPV (prs (r.getD j none :: col m j) (y :: gs))
    have e1 : tbG j (.tup [.lst (Ams r), am y]) = isK (am (r.getD j none)) := by
      show isK ((Ams r).getD j .non) = _
      rw [getD_am]
    have e2 : hG j (.tup [.lst (Ams r), am y]) = .tup [am (r.getD j none), am y] := by
      show PV.tup [(Ams r).getD j .non, am y] = _
      rw [getD_am]
    cases h : r.getD j none with
    | none =>
      rw [h] at e1
      rw [List.filter_cons_of_neg (by rw [e1]; decide), ih]; rfl
    | some x =>
      rw [h] at e1 e2
      rw [List.filter_cons_of_pos (by rw [e1]; rfl), List.map_cons, ih, e2]; rfl
theorem zip_Gm : ∀ {m : Mat} {gs : List (Option Int)} {q : PV}, q ∈ zipP (LL m) (Ams gs) → ∃ r y, r ∈ m ∧ q = .tup [.lst (Ams r), am y]
  | [], gs, q, h => by simp [LL, zipP] at h
  | r :: m, [], q, h => by simp [LL, Ams, zipP] at h
  | r :: m, y :: gs, q, h => by
    have h' : q ∈ PV.tup [.lst (Ams r), am y] :: zipP (LL m) (Ams gs) := h
    rcases List.mem_cons.mp h' with rfl | h
    · exact ⟨r, y, List.mem_cons_self, rfl⟩
    · obtain ⟨r', y', h1, h2⟩ := zip_Gm h
      exact ⟨r', y', List.mem_cons_of_mem _ h1, h2⟩
theorem atI_Ams {r : List (Option Int)} {j w : Nat} (h : r.length = w) (hj : j < w) : L2.atI (Ams r) (j : Int) = some (am (r.getD j none)) := by
  have hlt : j < (Ams r).length := by rw [Ams_len]; omega
  rw [← getD_am]
  unfold L2.atI
  rw [ixN_nat hlt, Option.bind_some, List.getD_eq_getElem?_getD, List.getElem?_eq_getElem hlt]; rfl
def low (gs : List (Option Int)) (ct gt : Int) (k : Nat) (a : Int) : Bool := match gs.getD k none with
  | some g => decide (g - a + ct < gt)
  | none => true
def heldF (gs : List (Option Int)) (t : Nat) (ct gt : Int) : Nat → List (Option Int) → Bool
  | _, [] => false
  | k, none :: cs => heldF gs t ct gt (k + 1) cs
  | k, some a :: cs => if k ≠ t ∧ low gs ct gt k a = true then true else heldF gs t ct gt (k + 1) cs
theorem atI_seq {gs : List (Option Int)} {n k : Nat} (h : gs.length = n) (hk : k < n) : L2.atI (Ams gs) (k : Int) = some (am (gs.getD k none)) := atI_Ams h hk
theorem forP_all {g : PGF} {body : PSF} {I : List Sl → Prop} {v : Vl} (ok : PV → Bool) : ∀ (items : List PV) (ρ : List Sl), I ρ → (∀ p ∈ items, ∀ ρ, I ρ → ∃ ρ1 ρ2, g p ρ = some ρ1 ∧ I ρ2 ∧ body ρ1 = some (if ok p = true then .nx else .rt v, ρ2)) → ∃ ρ', I ρ' ∧ forP g body items ρ = some (if items.all ok = true then .nx else .rt v, ρ')
  | [], ρ, h, _ => ⟨ρ, h, rfl⟩
  | p :: ps, ρ, h, st => by
    obtain ⟨ρ1, ρ2, h1, h2, h3⟩ := st p List.mem_cons_self ρ h
    rw [forP, h1, Option.bind_some, h3, Option.bind_some, List.all_cons]
    cases hk : ok p with
    | true =>
      obtain ⟨ρ', h4, e⟩ := forP_all ok ps ρ2 h2 fun q hq => st q (List.mem_cons_of_mem _ hq)
      exact ⟨ρ', h4, e⟩
    | false => exact ⟨ρ2, h2, rfl⟩
def okI (m : Mat) (gs : List (Option Int)) (t : Nat) (gt : Int) (j : Nat) : Bool := match (col m j).getD t none with
  | none => true
  | some ct => heldF gs t ct gt 0 (col m j)
def jOf : PV → Nat
  | .int i => i.toNat
  | _ => 0
theorem all_range (ok : Nat → Bool) (w : Nat) : (rangeP 0 w).all (fun p => ok (jOf p)) = (List.range w).all ok := by
  unfold rangeP
  rw [List.all_map]
  congr 1
  funext k
  show ok (Int.toNat (0 + (k : Nat))) = ok k
  rw [Int.zero_add]; rfl
theorem col_len (m : Mat) (j : Nat) : (col m j).length = m.length := by unfold col; rw [List.length_map]
def odd (p : PV) : Prop := p = .non ∨ (∃ b, p = .bl b) ∨ ∃ x, p = .str x
theorem prs_ne : ∀ {c gs : List (Option Int)} {t : Nat} {ct : Int}, gs.length = c.length → c.getD t none = some ct → prs c gs ≠ []
  | [], gs, t, ct, _, h => by simp at h
  | x :: c, [], t, ct, h, _ => by simp at h
  | some a :: c, g :: gs, t, ct, _, _ => by simp [prs]
  | none :: c, g :: gs, 0, ct, _, h => by simp at h
  | none :: c, g :: gs, t + 1, ct, hl, h => by
    rw [prs]
    exact prs_ne (t := t) (by simpa using hl) (by simpa using h)
theorem col_get {m : Mat} {t : Nat} (ht : t < m.length) (j : Nat) : (col m j).getD t none = (m[t]).getD j none := by
  unfold col
  rw [List.getD_eq_getElem?_getD, List.getElem?_map, List.getElem?_eq_getElem ht]; rfl
def okA (m : Mat) (gs : List (Option Int)) (t : Nat) (gt : Int) (j : Nat) : Bool := match (col m j).getD t none with
  | none => true
  | some ct => match grs (prs (col m j) gs) with
    | some (some x) => !(x + ct == gt)
    | _ => true
theorem grs_some {ps : List (Int × Option Int)} (h : ps ≠ []) : ∃ o, grs ps = some o := by
  have : ps.isEmpty = false := by cases ps with | nil => exact absurd rfl h | cons _ _ => rfl
  unfold grs
  rw [this]
  cases anyNone ps <;> exact ⟨_, rfl⟩
theorem atI_LL {m : Mat} {t : Nat} (ht : t < m.length) : L2.atI (LL m) (t : Int) = some (.lst (Ams m[t])) := by
  have hlt : t < (LL m).length := by rw [LL_len]; exact ht
  unfold L2.atI
  rw [ixN_nat hlt, Option.bind_some]
  unfold LL
  rw [List.getElem?_map, List.getElem?_eq_getElem ht]; rfl
theorem prs_mem : ∀ {c gs : List (Option Int)} {a : Int} {g : Option Int}, (a, g) ∈ prs c gs ↔ ∃ k : Nat, c[k]? = some (some a) ∧ gs[k]? = some g
  | [], gs, a, g => by simp [prs]
  | x :: c, [], a, g => by cases x <;> simp [prs]
  | none :: c, y :: gs, a, g => by
    rw [prs, prs_mem]
    constructor
    · rintro ⟨k, h1, h2⟩
      exact ⟨k + 1, by simpa using h1, by simpa using h2⟩
    · rintro ⟨k, h1, h2⟩
      cases k with
      | zero => simp at h1
      | succ k => exact ⟨k, by simpa using h1, by simpa using h2⟩
  | some x :: c, y :: gs, a, g => by
    rw [prs, List.mem_cons, prs_mem]
    constructor
    · rintro (h | ⟨k, h1, h2⟩)
      · cases h; exact ⟨0, rfl, rfl⟩
      · exact ⟨k + 1, by simpa using h1, by simpa using h2⟩
    · rintro ⟨k, h1, h2⟩
      cases k with
      | zero => simp at h1 h2; exact .inl (by rw [h1, h2])
      | succ k => exact .inr ⟨k, by simpa using h1, by simpa using h2⟩
theorem difs_mem {ps : List (Int × Option Int)} {d : Int} : d ∈ difs ps ↔ ∃ a g, (a, some g) ∈ ps ∧ d = g - a := by
  induction ps with
  | nil => simp [difs]
  | cons x ps ih =>
    obtain ⟨a, g⟩ := x
    cases g with
    | none =>
      rw [difs, ih]
      constructor
      · rintro ⟨b, g, h1, h2⟩; exact ⟨b, g, List.mem_cons_of_mem _ h1, h2⟩
      · rintro ⟨b, g, h1, h2⟩
        rcases List.mem_cons.mp h1 with h | h
        · cases h
        · exact ⟨b, g, h, h2⟩
    | some g =>
      rw [difs, List.mem_cons, ih]
      constructor
      · rintro (rfl | ⟨b, g', h1, h2⟩)
        · exact ⟨a, g, List.mem_cons_self, rfl⟩
        · exact ⟨b, g', List.mem_cons_of_mem _ h1, h2⟩
      · rintro ⟨b, g', h1, h2⟩
        rcases List.mem_cons.mp h1 with h | h
        · cases h; exact .inl h2
        · exact .inr ⟨b, g', h, h2⟩
theorem heldF_iff {gs : List (Option Int)} {t : Nat} {ct gt : Int} : ∀ {k : Nat} {c : List (Option Int)}, heldF gs t ct gt k c = true ↔ ∃ (i : Nat) (a : Int), c[i]? = some (some a) ∧ k + i ≠ t ∧ low gs ct gt (k + i) a = true
  | k, [] => by simp [heldF]
  | k, none :: c => by
    rw [heldF, heldF_iff]
    constructor
    · rintro ⟨i, a, h1, h2, h3⟩
      exact ⟨i + 1, a, by simpa using h1, by omega, by rw [show k + (i + 1) = k + 1 + i by omega]; exact h3⟩
    · rintro ⟨i, a, h1, h2, h3⟩
      cases i with
      | zero => simp at h1
      | succ i => exact ⟨i, a, by simpa using h1, by omega, by rw [show k + 1 + i = k + (i + 1) by omega]; exact h3⟩
  | k, some b :: c => by
    rw [heldF]
    by_cases hc : k ≠ t ∧ low gs ct gt k b = true
    · rw [if_pos hc]
      exact ⟨fun _ => ⟨0, b, rfl, by omega, hc.2⟩, fun _ => rfl⟩
    · rw [if_neg hc, heldF_iff]
      constructor
      · rintro ⟨i, a, h1, h2, h3⟩
        exact ⟨i + 1, a, by simpa using h1, by omega, by rw [show k + (i + 1) = k + 1 + i by omega]; exact h3⟩
      · rintro ⟨i, a, h1, h2, h3⟩
        cases i with
        | zero =>
          simp at h1
          subst h1
          exact absurd ⟨by omega, h3⟩ hc
        | succ i => exact ⟨i, a, by simpa using h1, by omega, by rw [show k + 1 + i = k + (i + 1) by omega]; exact h3⟩
theorem getD_some {xs : List (Option Int)} {k : Nat} {v : Int} : xs.getD k none = some v ↔ xs[k]? = some (some v) := by
  rw [List.getD_eq_getElem?_getD]
  cases h : xs[k]? with
  | none => simp
  | some x => simp
theorem anyNone_iff {ps : List (Int × Option Int)} : anyNone ps = true ↔ ∃ a, (a, none) ∈ ps := by
  unfold anyNone
  rw [List.any_eq_true]
  constructor
  · rintro ⟨⟨a, g⟩, h1, h2⟩
    cases g with
    | none => exact ⟨a, h1⟩
    | some _ => cases h2
  · rintro ⟨a, h⟩; exact ⟨_, h, rfl⟩
theorem okIA {m : Mat} {gs : List (Option Int)} {t j : Nat} {gt : Int} (hl : gs.length = m.length) (hgt : gs.getD t none = some gt) : okI m gs t gt j = okA m gs t gt j := by
  unfold okI okA
  cases hx : (col m j).getD t none with
  | none => rfl
  | some ct =>
    have hcl : gs.length = (col m j).length := by rw [col_len]; exact hl
    generalize col m j = c at *
    have hne := prs_ne hcl hx
    have hE : (prs c gs).isEmpty = false := by cases h : prs c gs with | nil => exact absurd h hne | cons _ _ => rfl
    have h1 := getD_some.mp hx
    have h2 := getD_some.mp hgt
    have hself : (ct, some gt) ∈ prs c gs := prs_mem.mpr ⟨t, h1, h2⟩
    show heldF gs t ct gt 0 c = (match grs (prs c gs) with | some (some x) => !(x + ct == gt) | _ => true)
    unfold grs
    rw [hE]
    cases hA : anyNone (prs c gs) with
    | true =>
      obtain ⟨a, ha⟩ := anyNone_iff.mp hA
      obtain ⟨k, k1, k2⟩ := prs_mem.mp ha
      show heldF gs t ct gt 0 c = true
      refine heldF_iff.mpr ⟨k, a, k1, ?_, ?_⟩
      · rintro e
        rw [Nat.zero_add] at e
        subst e
        rw [h2] at k2; cases k2
      · rw [Nat.zero_add]
        unfold low
        rw [List.getD_eq_getElem?_getD, k2]; rfl
    | false =>
      have hd := difs_nil hA hE
      have hmem := minL_mem hd
      have hle : ∀ d ∈ difs (prs c gs), minL (difs (prs c gs)) ≤ d := fun d h => minL_le h
      have hs : gt - ct ∈ difs (prs c gs) := difs_mem.mpr ⟨ct, gt, hself, rfl⟩
      have hs2 := hle _ hs
      show heldF gs t ct gt 0 c = !(minL (difs (prs c gs)) + ct == gt)
      generalize minL (difs (prs c gs)) = mn at *
      rw [Bool.eq_iff_iff, heldF_iff]
      constructor
      · rintro ⟨k, a, k1, k2, k3⟩
        rw [Nat.zero_add] at k3
        have : mn + ct ≠ gt := by
          unfold low at k3
          cases hg : gs.getD k none with
          | none =>
            exfalso
            have hk : k < gs.length := by have := (List.getElem?_eq_some_iff.mp k1).1; omega
            have : (a, none) ∈ prs c gs := prs_mem.mpr ⟨k, k1, by rw [List.getD_eq_getElem?_getD, List.getElem?_eq_getElem hk] at hg; rw [List.getElem?_eq_getElem hk]; exact congrArg some hg⟩
            have := anyNone_iff.mpr ⟨a, this⟩
            rw [hA] at this; cases this
          | some g =>
            rw [hg] at k3
            have h3 := of_decide_eq_true k3
            have := hle _ (difs_mem.mpr ⟨a, g, prs_mem.mpr ⟨k, k1, getD_some.mp hg⟩, rfl⟩)
            omega
        simpa using this
      · intro hb
        have hb' : mn + ct ≠ gt := by simpa using hb
        obtain ⟨a, g, m1, m2⟩ := difs_mem.mp hmem
        obtain ⟨k, k1, k2⟩ := prs_mem.mp m1
        refine ⟨k, a, k1, ?_, ?_⟩
        · rintro e
          rw [Nat.zero_add] at e
          subst e
          rw [h1] at k1
          rw [h2] at k2
          cases k1; cases k2
          omega
        · rw [Nat.zero_add]
          unfold low
          rw [getD_some.mpr k2]
          exact decide_eq_true (by omega)
def lt' (o u : Option Int) : Prop := ∀ i, o = some i → ∃ j, u = some j ∧ i ≤ j
def bst (m : Mat) (w : Nat) (gs : List (Option Int)) : List (Option Int) := fill (told m w gs)
theorem bst_get {m : Mat} {w : Nat} {gs : List (Option Int)} {j : Nat} (hj : j < w) : (bst m w gs).getD j none = (match grs (prs (col m j) gs) with | none => some 0 | some o => o) := by
  unfold bst fill told
  rw [List.map_map, List.getD_eq_getElem?_getD, List.getElem?_map, List.getElem?_range hj]; rfl
theorem lat_le {os : List (Option Int)} {g : Option Int} (h : ∀ o ∈ os, lt' o g) : lt' (lat os) g := by
  induction os with
  | nil => intro i e; cases e
  | cons o os ih =>
    rw [lat_cons]
    have h1 := h o List.mem_cons_self
    have h2 := ih fun x hx => h x (List.mem_cons_of_mem _ hx)
    cases o with
    | none => exact h2
    | some a =>
      obtain ⟨j, e1, e2⟩ := h1 a rfl
      cases hl : lat os with
      | none => intro i e; cases e; exact ⟨j, e1, e2⟩
      | some b =>
        obtain ⟨k, e3, e4⟩ := h2 b hl
        rw [e1] at e3; cases e3
        intro i e
        cases e
        exact ⟨j, e1, by omega⟩
theorem lat_ge {os : List (Option Int)} {a : Int} (h : some a ∈ os) : ∃ b, lat os = some b ∧ a ≤ b := by
  induction os with
  | nil => simp at h
  | cons o os ih =>
    rw [lat_cons]
    rcases List.mem_cons.mp h with e | h
    · subst e
      cases lat os with
      | none => exact ⟨a, rfl, Int.le_refl _⟩
      | some b => exact ⟨max a b, rfl, by omega⟩
    · obtain ⟨b, e1, e2⟩ := ih h
      rw [e1]
      cases o with
      | none => exact ⟨b, rfl, e2⟩
      | some c => exact ⟨max c b, rfl, by omega⟩
theorem lat_mem {os : List (Option Int)} {b : Int} (h : lat os = some b) : some b ∈ os := by
  induction os generalizing b with
  | nil => cases h
  | cons o os ih =>
    rw [lat_cons] at h
    cases o with
    | none => exact List.mem_cons_of_mem _ (ih h)
    | some c =>
      cases hl : lat os with
      | none => rw [hl] at h; cases h; exact List.mem_cons_self
      | some d =>
        rw [hl] at h
        have h' : max c d = b := by cases h; rfl
        by_cases hc : d ≤ c
        · have : b = c := by omega
          rw [this]; exact List.mem_cons_self
        · have : b = d := by omega
          rw [this]; exact List.mem_cons_of_mem _ (ih hl)
theorem zw_mem {w : Nat} {r xs : List (Option Int)} (hr : r.length = w) (hx : xs.length = w) {o : Option Int} : o ∈ List.zipWith beh r xs ↔ ∃ j, j < w ∧ o = beh (r.getD j none) (xs.getD j none) := by
  constructor
  · intro h
    obtain ⟨j, hj, e⟩ := List.getElem_of_mem h
    rw [List.length_zipWith] at hj
    rw [List.getElem_zipWith] at e
    refine ⟨j, by omega, ?_⟩
    rw [List.getD_eq_getElem?_getD, List.getD_eq_getElem?_getD, List.getElem?_eq_getElem (by omega), List.getElem?_eq_getElem (by omega), ← e]; rfl
  · rintro ⟨j, hj, rfl⟩
    rw [List.getD_eq_getElem?_getD, List.getD_eq_getElem?_getD, List.getElem?_eq_getElem (by omega), List.getElem?_eq_getElem (by omega)]
    have : (List.zipWith beh r xs)[j]'(by rw [List.length_zipWith]; omega) = beh r[j] xs[j] := List.getElem_zipWith
    show beh r[j] xs[j] ∈ _
    rw [← this]
    exact List.getElem_mem _
theorem term_le {m : Mat} {w t j : Nat} {gs : List (Option Int)} (hl : gs.length = m.length) (ht : t < m.length) (hj : j < w) : lt' (beh ((col m j).getD t none) ((bst m w gs).getD j none)) (gs.getD t none) := by
  rw [bst_get hj]
  cases hx : (col m j).getD t none with
  | none => intro i e; cases e
  | some ct =>
    have hcl : gs.length = (col m j).length := by rw [col_len]; exact hl
    have hE : (prs (col m j) gs).isEmpty = false := by cases h : prs (col m j) gs with | nil => exact absurd h (prs_ne hcl hx) | cons _ _ => rfl
    have ht2 : t < gs.length := by omega
    have hself : (ct, gs.getD t none) ∈ prs (col m j) gs := prs_mem.mpr ⟨t, getD_some.mp hx, by rw [List.getD_eq_getElem?_getD, List.getElem?_eq_getElem ht2]; rfl⟩
    unfold grs
    rw [hE]
    cases hA : anyNone (prs (col m j) gs) with
    | true => intro i e; cases e
    | false =>
      obtain ⟨g, hg⟩ := anyNone_all hA hself
      rw [hg] at hself ⊢
      have := minL_le (difs_mem.mpr ⟨ct, g, hself, rfl⟩)
      intro i e
      have e' : ct + minL (difs (prs (col m j) gs)) = i := by cases e; rfl
      exact ⟨g, rfl, by omega⟩
theorem bst_len (m : Mat) (w : Nat) (gs : List (Option Int)) : (bst m w gs).length = w := by unfold bst; rw [fill_len, told_len]
theorem here_le {m : Mat} {w t : Nat} {gs : List (Option Int)} (h : Mt m w) (hl : gs.length = m.length) (ht : t < m.length) : lt' (scal m[t] (bst m w gs)) (gs.getD t none) := by
  refine lat_le fun o ho => ?_
  obtain ⟨j, hj, rfl⟩ := (zw_mem (h.ww _ (List.getElem_mem ht)) (bst_len m w gs)).mp ho
  rw [← col_get ht]
  exact term_le hl ht hj
theorem here_eq {m : Mat} {w t : Nat} {gs : List (Option Int)} {gt : Int} (h : Mt m w) (hl : gs.length = m.length) (ht : t < m.length) (hgt : gs.getD t none = some gt) : scal m[t] (bst m w gs) = some gt ↔ (List.range w).all (okA m gs t gt) = false := by
  have hw := h.ww _ (List.getElem_mem ht)
  have term : ∀ j, j < w → (okA m gs t gt j = false ↔ beh ((col m j).getD t none) ((bst m w gs).getD j none) = some gt) := fun j hj => by
    rw [bst_get hj]
    unfold okA
    cases hx : (col m j).getD t none with
    | none => simp [beh]
    | some ct =>
      obtain ⟨o, ho⟩ := grs_some (prs_ne (c := col m j) (gs := gs) (by rw [col_len]; exact hl) hx)
      rw [ho]
      cases o with
      | none => simp [beh]
      | some x => simp [beh]; omega
  constructor
  · intro e
    obtain ⟨j, hj, e2⟩ := (zw_mem hw (bst_len m w gs)).mp (lat_mem e)
    rw [← col_get ht] at e2
    have := (term j hj).mpr e2.symm
    rw [List.all_eq_false]
    exact ⟨j, List.mem_range.mpr hj, by rw [this]; simp⟩
  · intro e
    rw [List.all_eq_false] at e
    obtain ⟨j, hj, e2⟩ := e
    have hj' := List.mem_range.mp hj
    have e3 := (term j hj').mp (by simpa using e2)
    have hm : some gt ∈ List.zipWith beh m[t] (bst m w gs) := (zw_mem hw (bst_len m w gs)).mpr ⟨j, hj', by rw [← col_get ht]; exact e3.symm⟩
    obtain ⟨b, e4, e5⟩ := lat_ge hm
    obtain ⟨k, e6, e7⟩ := here_le h hl ht b e4
    rw [hgt] at e6
    cases e6
    show lat _ = _
    rw [e4]
    exact congrArg some (by omega)
theorem left_iff {m : Mat} {w : Nat} {gs : List (Option Int)} (h : Mt m w) (hl : gs.length = m.length) : app m (bst m w gs) = gs ↔ ∀ (t : Nat) (gt : Int), t < m.length → gs.getD t none = some gt → (List.range w).all (okA m gs t gt) = false := by
  have ha : (app m (bst m w gs)).length = m.length := by unfold app; rw [List.length_map]
  have hg : ∀ t, (ht : t < m.length) → (app m (bst m w gs))[t]? = some (scal m[t] (bst m w gs)) := fun t ht => by
    unfold app
    rw [List.getElem?_map, List.getElem?_eq_getElem ht]; rfl
  constructor
  · intro e t gt ht hgt
    refine (here_eq h hl ht hgt).mp ?_
    have h1 := hg t ht
    rw [e] at h1
    have h2 := getD_some.mp hgt
    rw [h2] at h1
    exact (Option.some.inj h1).symm
  · intro hall
    apply List.ext_getElem?
    intro t
    by_cases ht : t < m.length
    · rw [hg t ht]
      cases hgt : gs.getD t none with
      | some gt => rw [(here_eq h hl ht hgt).mpr (hall t gt ht hgt), getD_some.mp hgt]
      | none =>
        have h1 := here_le h hl ht
        rw [hgt] at h1
        have h2 : gs[t]? = some none := by
          rw [List.getD_eq_getElem?_getD, List.getElem?_eq_getElem (by omega)] at hgt
          rw [List.getElem?_eq_getElem (by omega)]
          exact congrArg some hgt
        rw [h2]
        cases hs : scal m[t] (bst m w gs) with
        | none => rfl
        | some x =>
          obtain ⟨j, e1, _⟩ := h1 x hs
          cases e1
    · rw [List.getElem?_eq_none (by omega), List.getElem?_eq_none (by omega)]
theorem later_bad {m : Mat} {w j : Nat} {gs xs : List (Option Int)} {x : Int} (h : Mt m w) (hl : gs.length = m.length) (hj : j < w) (hg : grs (prs (col m j) gs) = some (some x)) (hx : xs.length = w) (hx2 : xs.getD j none = some (x + 1)) : ∃ (t : Nat) (ht : t < m.length) (i g : Int), scal m[t] xs = some i ∧ gs[t]? = some (some g) ∧ ¬ i ≤ g := by
  unfold grs at hg
  cases hE : (prs (col m j) gs).isEmpty with
  | true => rw [hE] at hg; cases hg
  | false =>
    rw [hE] at hg
    cases hA : anyNone (prs (col m j) gs) with
    | true => rw [hA] at hg; cases hg
    | false =>
      rw [hA] at hg
      have hx3 : minL (difs (prs (col m j) gs)) = x := by cases hg; rfl
      have hm := minL_mem (difs_nil hA hE)
      rw [hx3] at hm
      obtain ⟨a, g, m1, m2⟩ := difs_mem.mp hm
      obtain ⟨t, k1, k2⟩ := prs_mem.mp m1
      have ht : t < m.length := by have := (List.getElem?_eq_some_iff.mp k1).1; rwa [col_len] at this
      have hterm : some (a + (x + 1)) ∈ List.zipWith beh m[t] xs := (zw_mem (h.ww _ (List.getElem_mem ht)) hx).mpr ⟨j, hj, by rw [← col_get ht, getD_some.mpr k1, hx2]; rfl⟩
      obtain ⟨b, e1, e2⟩ := lat_ge hterm
      exact ⟨t, ht, b, g, e1, k2, by omega⟩
theorem seq_nx' {f g : PSF} {ρ ρ1 : List Sl} (h : f ρ = some (.nx, ρ1)) : sSeq f g ρ = g ρ1 := by
  unfold sSeq
  rw [h, Option.bind_some]
section
variable {x0 x1 x2 x3 x4 x5 x6 x7 x8 x9 x10 x11 x12 x13 x14 x15 x16 x17 : Sl}
def hGr (m : Mat) (gs : List (Option Int)) : PV → PV
  | .int j => ans (grs (prs (col m j.toNat) gs))
  | _ => .non
theorem map_hGr (m : Mat) (w : Nat) (gs : List (Option Int)) : (rangeP 0 w).map (hGr m gs) = Anss (told m w gs) := by
  rw [rangeP_map]
  unfold Anss told
  rw [List.map_map]; rfl
def lefts (a b : List (Option Int)) : List Int := ((List.range b.length).filter fun j => a.getD j none != b.getD j none).map fun j : Nat => (j : Int)
def tbL (a b : List (Option Int)) : PV → Bool
  | .int j => a.getD j.toNat none != b.getD j.toNat none
  | _ => false
theorem filt_map {α β : Type} (f : α → β) (p : β → Bool) : ∀ xs : List α, (xs.map f).filter p = (xs.filter fun x => p (f x)).map f
  | [] => rfl
  | x :: xs => by
    have ih := filt_map f p xs
    rw [List.map_cons, List.filter_cons, List.filter_cons]
    cases h : p (f x) with
    | true => rw [if_pos rfl, if_pos rfl, List.map_cons, ih]
    | false => rw [if_neg (by simp), if_neg (by simp), ih]
theorem range_left (a b : List (Option Int)) : ((rangeP 0 b.length).filter (tbL a b)).map (fun p => p) = Ints (lefts a b) := by
  unfold rangeP lefts Ints
  rw [filt_map, List.map_map, List.map_map]
  have : (fun k : Nat => tbL a b (PV.int (0 + (k : Nat)))) = fun j => a.getD j none != b.getD j none := by
    funext k
    rw [Int.zero_add]; rfl
  rw [this]
  refine List.map_congr_left fun k _ => ?_
  show PV.int (0 + (k : Nat)) = PV.int (k : Nat)
  rw [Int.zero_add]
end
theorem aCons_st {f : PF} {fs : PFs} {ρ ρ1 ρ2 : List Sl} {r : Sl} {rs : List Sl} (h1 : f ρ = some (r, ρ1)) (h2 : fs ρ1 = some (rs, ρ2)) : aCons f fs ρ = some (r :: rs, ρ2) := by
  unfold aCons
  rw [h1, Option.bind_some, h2]; rfl
theorem eCall_st {f : FP} {fs : PFs} {ρ ρ1 : List Sl} {v : Vl} {rs ss : List Sl} (h1 : fs ρ = some (rs, ρ1)) (h2 : f (rs.map tmpOf) = some (v, ss)) : eCall f fs ρ = some (v.sl, putB rs ss ρ1) := by
  unfold eCall
  rw [h1, Option.bind_some, h2]; rfl
theorem sSet_st {fa : PF} {ρ ρ1 : List Sl} {v : Vl} {i : Nat} (h : fa ρ = some (v.sl, ρ1)) : sSet i fa ρ = some (.nx, ρ1.set i v.sl) := by
  unfold sSet
  rw [h]
  cases v <;> rfl
section
variable {x0 x1 x2 x3 x4 x5 x6 x7 x8 x9 x10 x11 x12 x13 x14 x15 x16 x17 : Sl}
theorem Ams_set (gs : List (Option Int)) (k : Nat) (o : Option Int) : (Ams gs).set k (am o) = Ams (gs.set k o) := by
  unfold Ams
  rw [List.map_set]
theorem datN_ans (n : Nat) (o : Option (Option Int)) : datN n (ans o) = true := by
  cases o with
  | none => exact (datN_s n _).trans any_ok
  | some o => exact datN_am n o
theorem datNs_Anss (n : Nat) : ∀ t : List (Option (Option Int)), datNs n (Anss t) = true
  | [] => by unfold Anss; rw [List.map_nil]; exact datNs_nil n
  | x :: t => by
    have ih := datNs_Anss n t
    have : Anss (x :: t) = ans x :: Anss t := rfl
    rw [this]
    unfold datNs
    simp [datN_ans, ih]
end
theorem lefts_cons (x y : Option Int) (as bs : List (Option Int)) : lefts (x :: as) (y :: bs) = (if x = y then [] else [0]) ++ (lefts as bs).map (· + 1) := by
  unfold lefts
  rw [List.length_cons, List.range_succ_eq_map, List.filter_cons, filt_map, List.map_map]
  have e : ((x :: as).getD 0 none != (y :: bs).getD 0 none) = (x != y) := rfl
  rw [e]
  have e2 : ((fun n : Nat => (n : Int) + 1) ∘ fun n : Nat => n) = fun n : Nat => ((n + 1 : Nat) : Int) := by funext n; simp
  have e3 : (List.map ((fun x => x + 1) ∘ fun j : Nat => (j : Int)) (List.filter (fun j => as.getD j none != bs.getD j none) (List.range bs.length))) = List.map (fun n : Nat => ((n + 1 : Nat) : Int)) (List.filter (fun j => as.getD j none != bs.getD j none) (List.range bs.length)) := by
    refine List.map_congr_left fun k _ => ?_
    simp
  rw [e3]
  by_cases h : x = y
  · subst h
    rw [if_neg (by simp), if_pos rfl, List.map_map]
    rfl
  · rw [if_pos (by simpa using h), if_neg h, List.map_cons, List.map_map]
    rfl
theorem lefts_fne : ∀ (a b : List (Option Int)), a.length = b.length → (lefts a b = [] ∧ fne a b = none ∧ a = b) ∨ ∃ (j : Nat) (r : List Int), lefts a b = (j : Int) :: r ∧ fne a b = some j ∧ a ≠ b
  | [], [], _ => .inl ⟨rfl, rfl, rfl⟩
  | [], _ :: _, h => by simp at h
  | _ :: _, [], h => by simp at h
  | x :: as, y :: bs, h => by
    rw [lefts_cons, fne]
    by_cases hc : x = y
    · subst hc
      rw [if_pos rfl, if_pos rfl, List.nil_append]
      rcases lefts_fne as bs (by simpa using h) with ⟨h1, h2, h3⟩ | ⟨j, r, h1, h2, h3⟩
      · refine .inl ⟨?_, ?_, ?_⟩
        · rw [h1]; rfl
        · rw [h2]; rfl
        · rw [h3]
      · refine .inr ⟨j + 1, r.map (· + 1), ?_, ?_, ?_⟩
        · rw [h1]; simp
        · rw [h2]; rfl
        · intro e; exact h3 (List.cons.inj e).2
    · refine .inr ⟨0, (lefts as bs).map (· + 1), ?_, ?_, ?_⟩
      · rw [if_neg hc]; rfl
      · rw [if_neg hc]
      · intro e; exact hc (List.cons.inj e).1
def aln (m : Mat) (w : Nat) (gs : List (Option Int)) (t : Nat) : Bool := match gs.getD t none with
  | none => false
  | some gt => (List.range w).all (okA m gs t gt)
section
variable {x0 x1 x2 x3 x4 x5 x6 x7 x8 x9 x10 x11 x12 x13 x14 x15 x16 x17 : Sl}
theorem rangeP_int {a : Int} {n : Nat} {p : PV} (h : p ∈ rangeP a n) : ∃ i, p = .int i := by
  unfold rangeP at h
  obtain ⟨k, _, rfl⟩ := List.mem_map.mp h
  exact ⟨_, rfl⟩
theorem iRange2_st {f g : PF} {ρ ρ1 ρ2 : List Sl} {i j : Int} (h1 : f ρ = some (.fz (.int i), ρ1)) (h2 : g ρ1 = some (.fz (.int j), ρ2)) (hi : -100000 ≤ i ∧ i ≤ 100000) (hj : -100000 ≤ j ∧ j ≤ 100000) : iRange2 f g ρ = some (rangeP i (j - i).toNat, [], ρ2) := by
  unfold iRange2
  rw [h1, Option.bind_some]
  simp only [h2, Option.bind_some]
  have hc : -(2 ^ 62) ≤ i ∧ j < 2 ^ 62 ∧ i < 2 ^ 62 ∧ -(2 ^ 62) ≤ j ∧ j - i ≤ (lineN : Int) := by
    unfold lineN
    refine ⟨?_, ?_, ?_, ?_, ?_⟩ <;> omega
  rw [if_pos hc]
theorem lst_add {f g : PF} {ρ ρ1 ρ2 : List Sl} {xs ys : List PV} (h1 : f ρ = some (.own xs, ρ1)) (h2 : g ρ1 = some (.own ys, ρ2)) (hl : xs.length + ys.length ≤ 100000) : eBin opAdd f g ρ = some (.own (xs ++ ys), ρ2) := by
  unfold eBin
  have : xs.length + ys.length ≤ lineN := by unfold lineN; omega
  simp [h1, h2, cont, opAdd, this, Vl.sl]
theorem U13i {gs : List (Option Int)} (hl : gs.length ≤ 8) : iSeq (eBin opAdd (eListRg (iRange2 (eNeg (eC (.int 1))) (eBin opAdd (eNary clLen (aCons (ePk 6) aNil)) (eC (.int 1))))) (eLst (aCons (eC .non) (aCons (eC (.bl true)) (aCons (eC (.str "0")) aNil))))) [x0, x1, x2, x3, x4, x5, .fz (.lst (Ams gs)), x7, x8, x9, x10, x11, x12, x13, x14, x15, x16, x17] = some (rangeP (-1) (gs.length + 1 - (-1) : Int).toNat ++ [.non, .bl true, .str "0"], [.own (rangeP (-1) (gs.length + 1 - (-1) : Int).toNat ++ [.non, .bl true, .str "0"])], [x0, x1, x2, x3, x4, x5, .fz (.lst (Ams gs)), x7, x8, x9, x10, x11, x12, x13, x14, x15, x16, x17]) := by
  have ea : eNeg (eC (.int 1)) [x0, x1, x2, x3, x4, x5, .fz (.lst (Ams gs)), x7, x8, x9, x10, x11, x12, x13, x14, x15, x16, x17] = some (.fz (.int (-1)), [x0, x1, x2, x3, x4, x5, .fz (.lst (Ams gs)), x7, x8, x9, x10, x11, x12, x13, x14, x15, x16, x17]) := by simp [eNeg, eC, cont]
  have eb : eBin opAdd (eNary clLen (aCons (ePk 6) aNil)) (eC (.int 1)) [x0, x1, x2, x3, x4, x5, .fz (.lst (Ams gs)), x7, x8, x9, x10, x11, x12, x13, x14, x15, x16, x17] = some (.fz (.int (gs.length + 1)), [x0, x1, x2, x3, x4, x5, .fz (.lst (Ams gs)), x7, x8, x9, x10, x11, x12, x13, x14, x15, x16, x17]) := by simp [fnF, prepP, finP, sNil, sSeq, sIf, sRet, sRetN, sExpr, sSet, sPar, sPar3, sAsg, sSetIx, sFor, gNm, gTp, gsNil, gsCons, eVar, ePk, eMv, eBor, eC, eBin, eNeg, eAndF, eOrF, eNotF, eIf, eChain, eTup, eLst, eNary, eCall, eMeth, eMake, eFld, eSl, oSome, oNone, aNil, aCons, tOf, tAndF, tOrF, tNotF, cont, conts, tmpOf, valOf, valsOf, toVl, Vl.sl, putB, iSeq, seqOf, iRange1, iRange2, iZip2, iZip3, iEnum, opAdd, opSub, opMul, opMod, opFdiv, opPow, opEq, opNe, opLt, opLe, opGt, opGe, opCmp, opIs, opIsNot, opIx, opSl, isNon, clLen, clAbs, clInt, clMax, clMin, clMax2, clMin2, clSum, clAll, clAny, clTuple, clList, clIsi, isTy, isAny, tyP, subTy, eAppend, eExtend, datN_i, datN_n, datN_b, datN_l, datN_t, datNs_Ints, datNs_nil, eqP_ii, eqP_ll, eqP_tt, eqP_nn, eqP_bb, eqPs_Ints, eqPs_nn, eqPs_nc, eqPs_cn, lineN, Ams_len]
  have er := iRange2_st ea eb (by omega) (by omega)
  have hlen : (rangeP (-1) (gs.length + 1 - (-1) : Int).toNat).length = (gs.length + 1 - (-1) : Int).toNat := by unfold rangeP; simp
  have hs := lst_add (f := eListRg (iRange2 (eNeg (eC (.int 1))) (eBin opAdd (eNary clLen (aCons (ePk 6) aNil)) (eC (.int 1))))) (g := eLst (aCons (eC .non) (aCons (eC (.bl true)) (aCons (eC (.str "0")) aNil)))) (ρ := [x0, x1, x2, x3, x4, x5, .fz (.lst (Ams gs)), x7, x8, x9, x10, x11, x12, x13, x14, x15, x16, x17]) (ρ1 := [x0, x1, x2, x3, x4, x5, .fz (.lst (Ams gs)), x7, x8, x9, x10, x11, x12, x13, x14, x15, x16, x17]) (ρ2 := [x0, x1, x2, x3, x4, x5, .fz (.lst (Ams gs)), x7, x8, x9, x10, x11, x12, x13, x14, x15, x16, x17]) (xs := rangeP (-1) (gs.length + 1 - (-1) : Int).toNat) (ys := [.non, .bl true, .str "0"]) (by unfold eListRg; rw [er]; rfl) (by simp [eLst, aCons, aNil, eC, valsOf, valOf, lineN]) (by rw [hlen, List.length_cons, List.length_cons, List.length_singleton]; omega)
  unfold iSeq
  rw [hs]
  rfl
theorem left_any {m : Mat} {w : Nat} {gs : List (Option Int)} (h : Mt m w) (hl : gs.length = m.length) : ((List.range gs.length).map (aln m w gs)).any id = true ↔ app m (fill (told m w gs)) ≠ gs := by
  have key := left_iff h hl
  unfold bst at key
  rw [Ne, key]
  constructor
  · intro ha hall
    obtain ⟨b, hb, hbt⟩ := List.any_eq_true.mp ha
    obtain ⟨t, ht, rfl⟩ := List.mem_map.mp hb
    have ht := List.mem_range.mp ht
    simp only [id] at hbt
    unfold aln at hbt
    cases hg : gs.getD t none with
    | none => rw [hg] at hbt; cases hbt
    | some gt =>
      rw [hg] at hbt
      have := hall t gt (by omega) hg
      have hbt' : (List.range w).all (okA m gs t gt) = true := hbt
      rw [hbt'] at this
      cases this
  · intro hn
    cases hc : ((List.range gs.length).map (aln m w gs)).any id with
    | true => rfl
    | false =>
      exfalso
      apply hn
      intro t gt ht hg
      have h1 := List.any_eq_false.mp hc (aln m w gs t) (List.mem_map.mpr ⟨t, List.mem_range.mpr (by omega), rfl⟩)
      simp only [id] at h1
      unfold aln at h1
      rw [hg] at h1
      cases hk : (List.range w).all (okA m gs t gt) with
      | false => rfl
      | true => exact absurd hk h1
end
theorem cut_take {α : Type} (xs : List α) (j : Nat) : cutP xs none (some (j : Int)) = xs.take j := by
  unfold cutP
  rw [HT.sIx_none, HT.sIx_nat, List.drop_zero, Nat.sub_zero]
  by_cases h : j ≤ xs.length
  · rw [Nat.min_eq_left h]
  · rw [Nat.min_eq_right (by omega), List.take_length, List.take_of_length_le (by omega)]
theorem cut_drop {α : Type} (xs : List α) (j : Nat) : cutP xs (some (j : Int)) none = xs.drop j := by
  unfold cutP
  rw [HT.sIx_none, HT.sIx_nat]
  by_cases h : j ≤ xs.length
  · rw [Nat.min_eq_left h, List.take_of_length_le (by rw [List.length_drop]; omega)]
  · rw [Nat.min_eq_right (by omega), List.drop_length, List.drop_eq_nil_of_le (by omega), List.take_nil]
def nol : Option Int → Option Int → Bool
  | none, _ => true
  | some _, none => false
  | some i, some j => decide (i ≤ j)
def hNol : PV → PV
  | .tup [.int i, .int j] => .bl (decide (i ≤ j))
  | .tup [.int _, .non] => .bl false
  | _ => .bl true
theorem hNol_am (o u : Option Int) : hNol (.tup [am o, am u]) = .bl (nol o u) := by
  cases o <;> cases u <;> rfl
theorem zip_amm : ∀ {a b : List (Option Int)} {q : PV}, q ∈ zipP (Ams a) (Ams b) → ∃ x y, q = .tup [am x, am y]
  | [], b, q, h => by simp [Ams, zipP] at h
  | x :: a, [], q, h => by simp [Ams, zipP] at h
  | x :: a, y :: b, q, h => by
    have e : zipP (Ams (x :: a)) (Ams (y :: b)) = .tup [am x, am y] :: zipP (Ams a) (Ams b) := rfl
    rw [e] at h
    rcases List.mem_cons.mp h with rfl | h
    · exact ⟨x, y, rfl⟩
    · exact zip_amm h
theorem zip_nol : ∀ (a b : List (Option Int)), (zipP (Ams a) (Ams b)).map hNol = Bls (List.zipWith nol a b)
  | [], b => rfl
  | x :: a, [] => rfl
  | x :: a, y :: b => by
    have e : zipP (Ams (x :: a)) (Ams (y :: b)) = .tup [am x, am y] :: zipP (Ams a) (Ams b) := rfl
    rw [e, List.map_cons, zip_nol a b, List.zipWith_cons_cons, hNol_am]; rfl
theorem nol_bad {a b : List (Option Int)} {t : Nat} {i g : Int} (ha : a[t]? = some (some i)) (hb : b[t]? = some (some g)) (h : ¬ i ≤ g) : (List.zipWith nol a b).all id = false := by
  cases hc : (List.zipWith nol a b).all id with
  | false => rfl
  | true =>
    have e : (List.zipWith nol a b)[t]? = some (nol (some i) (some g)) := by
      rw [List.getElem?_zipWith, ha, hb]
    have := List.all_eq_true.mp hc _ (List.mem_of_getElem? e)
    simp [nol] at this
    omega
section
variable {x0 x1 x2 x3 x4 x5 x6 x7 x8 x9 x10 x11 x12 x13 x14 x15 x16 x17 : Sl}
theorem Anss_get {t : List (Option (Option Int))} {j : Nat} {p : PV} (h : (enumP 0 (Anss t))[j]? = some p) : j < t.length ∧ p = .tup [.int (j : Nat), ans (t.getD j none)] := by
  have hj : j < (enumP 0 (Anss t)).length := (List.getElem?_eq_some_iff.mp h).1
  rw [enumP_len, Anss_len] at hj
  have hx : (Anss t)[j]? = some (ans (t.getD j none)) := by
    unfold Anss
    rw [List.getElem?_map, List.getD_eq_getElem?_getD, List.getElem?_eq_getElem hj]; rfl
  rw [enumP_get hx, Nat.zero_add] at h
  exact ⟨hj, (Option.some.inj h).symm⟩
end
end Wk42
set_option Elab.async false
set_option linter.all false
set_option maxRecDepth 100000
set_option maxHeartbeats 1000000
namespace Wk42
open PySem PL
theorem B_lv (p q : Sl) (found : List Int) (c s : Int) (x5 : Sl) (hf : found.length ≤ 1000) : F_leaves_b1 [p, q, .own (Ints found), .fz (.int c), .fz (.int s), x5] = some (.nx, [p, q, .own (Ints (found ++ [stp found.getLast? c s])), .fz (.int c), .fz (.int s), .fz (.int (beg found.getLast? c))]) := by
  have hf2 : found.length < 16777216 := by omega
  rcases List.eq_nil_or_concat found with rfl | ⟨f, l, rfl⟩
  · simp [F_leaves_b1, fnF, prepP, finP, sNil, sSeq, sIf, sRet, sRetN, sExpr, sSet, sPar, sPar3, sAsg, sSetIx, sFor, gNm, gTp, gsNil, gsCons, eVar, ePk, eMv, eBor, eC, eBin, eNeg, eAndF, eOrF, eNotF, eIf, eChain, eTup, eLst, eNary, eCall, eMeth, eMake, eFld, eSl, oSome, oNone, aNil, aCons, tOf, tAndF, tOrF, tNotF, cont, conts, tmpOf, valOf, valsOf, toVl, Vl.sl, putB, iSeq, seqOf, iRange1, iRange2, iZip2, iZip3, iEnum, opAdd, opSub, opMul, opMod, opFdiv, opPow, opEq, opNe, opLt, opLe, opGt, opGe, opCmp, opIs, opIsNot, opIx, opSl, isNon, clLen, clAbs, clInt, clMax, clMin, clMax2, clMin2, clSum, clSum2, clAll, clAny, clTuple, clList, clIsi, isTy, isAny, tyP, subTy, eAppend, eExtend, datN_i, datN_n, datN_b, datN_l, datN_t, datNs_Ints, datNs_nil, eqP_ii, eqP_ll, eqP_tt, eqP_nn, eqP_bb, eqPs_Ints, eqPs_nn, eqPs_nc, eqPs_cn, lineN, Ints_nil, Ints_cons, stp, beg]
  · have h1 : eqPs (Ints (f.concat l)) [] = false := by rw [eqPs_In]; simp
    have h2 : L2.atI (Ints (f.concat l)) (-1) = some (.int l) := by rw [List.concat_eq_append, ← Ints_snoc]; exact atI_lastI f l
    have h3 : (f.concat l).getLast? = some l := by simp
    generalize f.concat l = found at *
    simp [F_leaves_b1, fnF, prepP, finP, sNil, sSeq, sIf, sRet, sRetN, sExpr, sSet, sPar, sPar3, sAsg, sSetIx, sFor, gNm, gTp, gsNil, gsCons, eVar, ePk, eMv, eBor, eC, eBin, eNeg, eAndF, eOrF, eNotF, eIf, eChain, eTup, eLst, eNary, eCall, eMeth, eMake, eFld, eSl, oSome, oNone, aNil, aCons, tOf, tAndF, tOrF, tNotF, cont, conts, tmpOf, valOf, valsOf, toVl, Vl.sl, putB, iSeq, seqOf, iRange1, iRange2, iZip2, iZip3, iEnum, opAdd, opSub, opMul, opMod, opFdiv, opPow, opEq, opNe, opLt, opLe, opGt, opGe, opCmp, opIs, opIsNot, opIx, opSl, isNon, clLen, clAbs, clInt, clMax, clMin, clMax2, clMin2, clSum, clSum2, clAll, clAny, clTuple, clList, clIsi, isTy, isAny, tyP, subTy, eAppend, eExtend, datN_i, datN_n, datN_b, datN_l, datN_t, datNs_Ints, datNs_nil, eqP_ii, eqP_ll, eqP_tt, eqP_nn, eqP_bb, eqPs_Ints, eqPs_nn, eqPs_nc, eqPs_cn, lineN, stp, beg, h1, h2, h3, hf2, Ints_snoc, Ints_len]
theorem L_lv (p q : Sl) : ∀ (cs ss found : List Int) (x3 x4 x5 : Sl), found.length + cs.length ≤ 1000 → ∃ y3 y4 y5, forP (gTp (gsCons (gNm 3) (gsCons (gNm 4) gsNil))) F_leaves_b1 (zipP (Ints cs) (Ints ss)) [p, q, .own (Ints found), x3, x4, x5] = some (.nx, [p, q, .own (Ints (found ++ lvs found.getLast? cs ss)), y3, y4, y5])
  | [], ss, found, x3, x4, x5, _ => ⟨x3, x4, x5, by simp [Ints_nil, zipP, forP, lvs]⟩
  | c :: cs, [], found, x3, x4, x5, _ => ⟨x3, x4, x5, by simp [Ints_nil, Ints_cons, zipP, forP, lvs]⟩
  | c :: cs, s :: ss, found, x3, x4, x5, hl => by
    rw [List.length_cons] at hl
    obtain ⟨y3, y4, y5, e⟩ := L_lv p q cs ss (found ++ [stp found.getLast? c s]) (.fz (.int c)) (.fz (.int s)) (.fz (.int (beg found.getLast? c))) (by simp; omega)
    refine ⟨y3, y4, y5, ?_⟩
    rw [Ints_cons, Ints_cons, zipP, forP, lvs]
    rw [List.getLast?_append, List.getLast?_singleton, Option.some_or, List.append_assoc, List.singleton_append] at e
    simp [gTp, gsCons, gNm, gsNil, B_lv p q found c s x5 (by omega), e]
theorem S_leaves {p q : PV} {cs ss : List Int} (hp : Sq p (Ints cs)) (hq : Sq q (Ints ss)) (h : Ln cs ss) : F_leaves [.fz p, .fz q] = some (.fz (.tup (Ints (lvs none cs ss))), [.fz p, .fz q]) := by
  have hl := h.l2
  obtain ⟨y3, y4, y5, e⟩ := L_lv (.fz p) (.fz q) cs ss [] .un .un .un (by simp; omega)
  simp [Ints_nil] at e
  have e2 : F_leaves_f1 [.fz p, .fz q, .own [], .un, .un, .un] = some (.nx, [.fz p, .fz q, .own (Ints (lvs none cs ss)), y3, y4, y5]) := by
    rcases hp with rfl | rfl <;> rcases hq with rfl | rfl <;> simp [F_leaves_f1, fnF, prepP, finP, sNil, sSeq, sIf, sRet, sRetN, sExpr, sSet, sPar, sPar3, sAsg, sSetIx, sFor, gNm, gTp, gsNil, gsCons, eVar, ePk, eMv, eBor, eC, eBin, eNeg, eAndF, eOrF, eNotF, eIf, eChain, eTup, eLst, eNary, eCall, eMeth, eMake, eFld, eSl, oSome, oNone, aNil, aCons, tOf, tAndF, tOrF, tNotF, cont, conts, tmpOf, valOf, valsOf, toVl, Vl.sl, putB, iSeq, seqOf, iRange1, iRange2, iZip2, iZip3, iEnum, opAdd, opSub, opMul, opMod, opFdiv, opPow, opEq, opNe, opLt, opLe, opGt, opGe, opCmp, opIs, opIsNot, opIx, opSl, isNon, clLen, clAbs, clInt, clMax, clMin, clMax2, clMin2, clSum, clSum2, clAll, clAny, clTuple, clList, clIsi, isTy, isAny, tyP, subTy, eAppend, eExtend, datN_i, datN_n, datN_b, datN_l, datN_t, datNs_Ints, datNs_nil, eqP_ii, eqP_ll, eqP_tt, eqP_nn, eqP_bb, eqPs_Ints, eqPs_nn, eqPs_nc, eqPs_cn, lineN, e]
  simp [F_leaves, fnF, prepP, finP, sNil, sSeq, sIf, sRet, sRetN, sExpr, sSet, sPar, sPar3, sAsg, sSetIx, sFor, gNm, gTp, gsNil, gsCons, eVar, ePk, eMv, eBor, eC, eBin, eNeg, eAndF, eOrF, eNotF, eIf, eChain, eTup, eLst, eNary, eCall, eMeth, eMake, eFld, eSl, oSome, oNone, aNil, aCons, tOf, tAndF, tOrF, tNotF, cont, conts, tmpOf, valOf, valsOf, toVl, Vl.sl, putB, iSeq, seqOf, iRange1, iRange2, iZip2, iZip3, iEnum, opAdd, opSub, opMul, opMod, opFdiv, opPow, opEq, opNe, opLt, opLe, opGt, opGe, opCmp, opIs, opIsNot, opIx, opSl, isNon, clLen, clAbs, clInt, clMax, clMin, clMax2, clMin2, clSum, clSum2, clAll, clAny, clTuple, clList, clIsi, isTy, isAny, tyP, subTy, eAppend, eExtend, datN_i, datN_n, datN_b, datN_l, datN_t, datNs_Ints, datNs_nil, eqP_ii, eqP_ll, eqP_tt, eqP_nn, eqP_bb, eqPs_Ints, eqPs_nn, eqPs_nc, eqPs_cn, lineN, e2, S_check_line hp hq h]
theorem T_waits {p q : PV} {cs ss : List Int} (hp : Sq p (Ints cs)) (hq : Sq q (Ints ss)) (h : Ln cs ss) : F_waits_l1 [.fz p, .fz q, .un, .un, .un] = some (.own (Ints (wts cs ss (lvs none cs ss))), [.fz p, .fz q, .un, .un, .un]) := by
  have hL := S_leaves hp hq h
  rw [← zip3_wts]
  refine eLc_map (items := zip3P (Ints cs) (Ints ss) (Ints (lvs none cs ss))) (rs := [.fz p, .fz q, .fz (.tup (Ints (lvs none cs ss)))]) _ ?_ (by simp [fnF, prepP, finP, sNil, sSeq, sIf, sRet, sRetN, sExpr, sSet, sPar, sPar3, sAsg, sSetIx, sFor, gNm, gTp, gsNil, gsCons, eVar, ePk, eMv, eBor, eC, eBin, eNeg, eAndF, eOrF, eNotF, eIf, eChain, eTup, eLst, eNary, eCall, eMeth, eMake, eFld, eSl, oSome, oNone, aNil, aCons, tOf, tAndF, tOrF, tNotF, cont, conts, tmpOf, valOf, valsOf, toVl, Vl.sl, putB, iSeq, seqOf, iRange1, iRange2, iZip2, iZip3, iEnum, opAdd, opSub, opMul, opMod, opFdiv, opPow, opEq, opNe, opLt, opLe, opGt, opGe, opCmp, opIs, opIsNot, opIx, opSl, isNon, clLen, clAbs, clInt, clMax, clMin, clMax2, clMin2, clSum, clSum2, clAll, clAny, clTuple, clList, clIsi, isTy, isAny, tyP, subTy, eAppend, eExtend, datN_i, datN_n, datN_b, datN_l, datN_t, datNs_Ints, datNs_nil, eqP_ii, eqP_ll, eqP_tt, eqP_nn, eqP_bb, eqPs_Ints, eqPs_nn, eqPs_nc, eqPs_cn, lineN]) (by decide) (by simp) fun z hz => ?_
  · rcases hp with rfl | rfl <;> rcases hq with rfl | rfl <;> simp [fnF, prepP, finP, sNil, sSeq, sIf, sRet, sRetN, sExpr, sSet, sPar, sPar3, sAsg, sSetIx, sFor, gNm, gTp, gsNil, gsCons, eVar, ePk, eMv, eBor, eC, eBin, eNeg, eAndF, eOrF, eNotF, eIf, eChain, eTup, eLst, eNary, eCall, eMeth, eMake, eFld, eSl, oSome, oNone, aNil, aCons, tOf, tAndF, tOrF, tNotF, cont, conts, tmpOf, valOf, valsOf, toVl, Vl.sl, putB, iSeq, seqOf, iRange1, iRange2, iZip2, iZip3, iEnum, opAdd, opSub, opMul, opMod, opFdiv, opPow, opEq, opNe, opLt, opLe, opGt, opGe, opCmp, opIs, opIsNot, opIx, opSl, isNon, clLen, clAbs, clInt, clMax, clMin, clMax2, clMin2, clSum, clSum2, clAll, clAny, clTuple, clList, clIsi, isTy, isAny, tyP, subTy, eAppend, eExtend, datN_i, datN_n, datN_b, datN_l, datN_t, datNs_Ints, datNs_nil, eqP_ii, eqP_ll, eqP_tt, eqP_nn, eqP_bb, eqPs_Ints, eqPs_nn, eqPs_nc, eqPs_cn, lineN, hL]
  · obtain ⟨c, s, l, rfl⟩ := zip3_mem hz
    refine ⟨[.fz (.int c), .fz (.int s), .fz (.int l)], .fz (.int (l - s - c)), [.fz (.int c), .fz (.int s), .fz (.int l)], ?_⟩
    simp [fnF, prepP, finP, sNil, sSeq, sIf, sRet, sRetN, sExpr, sSet, sPar, sPar3, sAsg, sSetIx, sFor, gNm, gTp, gsNil, gsCons, eVar, ePk, eMv, eBor, eC, eBin, eNeg, eAndF, eOrF, eNotF, eIf, eChain, eTup, eLst, eNary, eCall, eMeth, eMake, eFld, eSl, oSome, oNone, aNil, aCons, tOf, tAndF, tOrF, tNotF, cont, conts, tmpOf, valOf, valsOf, toVl, Vl.sl, putB, iSeq, seqOf, iRange1, iRange2, iZip2, iZip3, iEnum, opAdd, opSub, opMul, opMod, opFdiv, opPow, opEq, opNe, opLt, opLe, opGt, opGe, opCmp, opIs, opIsNot, opIx, opSl, isNon, clLen, clAbs, clInt, clMax, clMin, clMax2, clMin2, clSum, clSum2, clAll, clAny, clTuple, clList, clIsi, isTy, isAny, tyP, subTy, eAppend, eExtend, datN_i, datN_n, datN_b, datN_l, datN_t, datNs_Ints, datNs_nil, eqP_ii, eqP_ll, eqP_tt, eqP_nn, eqP_bb, eqPs_Ints, eqPs_nn, eqPs_nc, eqPs_cn, lineN, wipeS, backS]
theorem S_waits {p q : PV} {cs ss : List Int} (hp : Sq p (Ints cs)) (hq : Sq q (Ints ss)) (h : Ln cs ss) : F_waits [.fz p, .fz q] = some (.fz (.tup (Ints (wts cs ss (lvs none cs ss)))), [.fz p, .fz q]) := by
  have e := T_waits hp hq h
  simp [F_waits, fnF, prepP, finP, sNil, sSeq, sIf, sRet, sRetN, sExpr, sSet, sPar, sPar3, sAsg, sSetIx, sFor, gNm, gTp, gsNil, gsCons, eVar, ePk, eMv, eBor, eC, eBin, eNeg, eAndF, eOrF, eNotF, eIf, eChain, eTup, eLst, eNary, eCall, eMeth, eMake, eFld, eSl, oSome, oNone, aNil, aCons, tOf, tAndF, tOrF, tNotF, cont, conts, tmpOf, valOf, valsOf, toVl, Vl.sl, putB, iSeq, seqOf, iRange1, iRange2, iZip2, iZip3, iEnum, opAdd, opSub, opMul, opMod, opFdiv, opPow, opEq, opNe, opLt, opLe, opGt, opGe, opCmp, opIs, opIsNot, opIx, opSl, isNon, clLen, clAbs, clInt, clMax, clMin, clMax2, clMin2, clSum, clSum2, clAll, clAny, clTuple, clList, clIsi, isTy, isAny, tyP, subTy, eAppend, eExtend, datN_i, datN_n, datN_b, datN_l, datN_t, datNs_Ints, datNs_nil, eqP_ii, eqP_ll, eqP_tt, eqP_nn, eqP_bb, eqPs_Ints, eqPs_nn, eqPs_nc, eqPs_cn, lineN, e]
theorem wts_len : ∀ (cs ss ls : List Int), ss.length = cs.length → ls.length = cs.length → (wts cs ss ls).length = cs.length
  | [], ss, ls, _, _ => by simp [wts]
  | c :: cs, [], ls, h, _ => by simp at h
  | c :: cs, s :: ss, [], _, h => by simp at h
  | c :: cs, s :: ss, l :: ls, h, k => by rw [wts, List.length_cons, List.length_cons, wts_len cs ss ls (by simpa using h) (by simpa using k)]
/-- the fraction of a sum by a number -/
def frac (t : Int) (b : Nat) : PV := .tup [.int (t / (Nat.gcd t.natAbs b : Nat)), .int ((b : Int) / (Nat.gcd t.natAbs b : Nat))]
/-- the greatest common divisor by remainders -/
theorem W_cd : ∀ (b a : Nat), F_common_divisor_w1 [.fz (.int a), .fz (.int b)] = some (.nx, [.fz (.int (Nat.gcd a b : Nat)), .fz (.int 0)]) := by
  intro b
  induction b using Nat.strongRecOn with
  | _ b ih =>
    intro a
    unfold F_common_divisor_w1
    rw [sWhile_eq]
    by_cases hb : b = 0
    · subst hb
      simp [tOf, eBin, ePk, eC, cont, opGt, opCmp, Vl.sl]
    · have h1 : 0 < b := by omega
      have h2 := ih (a % b) (Nat.mod_lt _ (by omega)) b
      unfold F_common_divisor_w1 at h2
      have e : Nat.gcd b (a % b) = Nat.gcd a b := by rw [Nat.gcd_comm b, ← Nat.gcd_rec, Nat.gcd_comm]
      rw [e] at h2
      simp [tOf, eBin, ePk, eC, cont, opGt, opCmp, Vl.sl, h1, F_common_divisor_b1, sPar, aCons, aNil, eVar, eNary, conts, clInt, opMod, toVl, wNext]
      exact h2
theorem S_cd (a b : Nat) : F_common_divisor [.fz (.int a), .fz (.int b)] = some (.fz (.int (Nat.gcd a b : Nat)), [.fz (.int a), .fz (.int b)]) := by
  have e := W_cd b a
  simp [F_common_divisor, fnF, prepP, finP, sNil, sSeq, sIf, sRet, sRetN, sExpr, sSet, sPar, sPar3, sAsg, sSetIx, sFor, gNm, gTp, gsNil, gsCons, eVar, ePk, eMv, eBor, eC, eBin, eNeg, eAndF, eOrF, eNotF, eIf, eChain, eTup, eLst, eNary, eCall, eMeth, eMake, eFld, eSl, oSome, oNone, aNil, aCons, tOf, tAndF, tOrF, tNotF, cont, conts, tmpOf, valOf, valsOf, toVl, Vl.sl, putB, iSeq, seqOf, iRange1, iRange2, iZip2, iZip3, iEnum, opAdd, opSub, opMul, opMod, opFdiv, opPow, opEq, opNe, opLt, opLe, opGt, opGe, opCmp, opIs, opIsNot, opIx, opSl, isNon, clLen, clAbs, clInt, clMax, clMin, clMax2, clMin2, clSum, clSum2, clAll, clAny, clTuple, clList, clIsi, isTy, isAny, tyP, subTy, eAppend, eExtend, datN_i, datN_n, datN_b, datN_l, datN_t, datNs_Ints, datNs_nil, eqP_ii, eqP_ll, eqP_tt, eqP_nn, eqP_bb, eqPs_Ints, eqPs_nn, eqPs_nc, eqPs_cn, lineN, e]
theorem log_ok {g : Nat} (h : g ≤ 1000) : g.log2 < 9000 := by
  have := Nat.log2_le_self g
  omega
theorem abs_nat (t : Int) : (if t < 0 then -t else t) = ((t.natAbs : Nat) : Int) := by
  split <;> omega
theorem S_fraction {t : Int} {b : Nat} (h0 : 0 < b) (h1 : b ≤ 1000) : F_fraction [.fz (.int t), .fz (.int b)] = some (.fz (frac t b), [.fz (.int t), .fz (.int b)]) := by
  have hg1 : 0 < Nat.gcd t.natAbs b := Nat.gcd_pos_of_pos_right _ h0
  have hg2 : Nat.gcd t.natAbs b ≤ b := Nat.gcd_le_right _ h0
  have e := S_cd t.natAbs b
  have hl := log_ok (g := Nat.gcd t.natAbs b) (by omega)
  unfold frac
  have hb : ¬ (b : Int) < 0 := by omega
  rw [← abs_nat] at e
  generalize Nat.gcd t.natAbs b = g at *
  simp [F_fraction, fnF, prepP, finP, sNil, sSeq, sIf, sRet, sRetN, sExpr, sSet, sPar, sPar3, sAsg, sSetIx, sFor, gNm, gTp, gsNil, gsCons, eVar, ePk, eMv, eBor, eC, eBin, eNeg, eAndF, eOrF, eNotF, eIf, eChain, eTup, eLst, eNary, eCall, eMeth, eMake, eFld, eSl, oSome, oNone, aNil, aCons, tOf, tAndF, tOrF, tNotF, cont, conts, tmpOf, valOf, valsOf, toVl, Vl.sl, putB, iSeq, seqOf, iRange1, iRange2, iZip2, iZip3, iEnum, opAdd, opSub, opMul, opMod, opFdiv, opPow, opEq, opNe, opLt, opLe, opGt, opGe, opCmp, opIs, opIsNot, opIx, opSl, isNon, clLen, clAbs, clInt, clMax, clMin, clMax2, clMin2, clSum, clSum2, clAll, clAny, clTuple, clList, clIsi, isTy, isAny, tyP, subTy, eAppend, eExtend, datN_i, datN_n, datN_b, datN_l, datN_t, datNs_Ints, datNs_nil, eqP_ii, eqP_ll, eqP_tt, eqP_nn, eqP_bb, eqPs_Ints, eqPs_nn, eqPs_nc, eqPs_cn, lineN, hb, e, opFdiv, hg1, hl]
theorem W_lf : ∀ (b a : Nat) (x0 x1 : Sl), F__law_fraction_w1 [x0, x1, .fz (.int a), .fz (.int b)] = some (.nx, [x0, x1, .fz (.int (Nat.gcd a b : Nat)), .fz (.int 0)]) := by
  intro b
  induction b using Nat.strongRecOn with
  | _ b ih =>
    intro a x0 x1
    unfold F__law_fraction_w1
    rw [sWhile_eq]
    by_cases hb : b = 0
    · subst hb
      simp [tOf, eBin, ePk, eC, cont, opGt, opCmp, Vl.sl]
    · have h1 : 0 < b := by omega
      have h2 := ih (a % b) (Nat.mod_lt _ (by omega)) b x0 x1
      unfold F__law_fraction_w1 at h2
      have e : Nat.gcd b (a % b) = Nat.gcd a b := by rw [Nat.gcd_comm b, ← Nat.gcd_rec, Nat.gcd_comm]
      rw [e] at h2
      simp [tOf, eBin, ePk, eC, cont, opGt, opCmp, Vl.sl, h1, F__law_fraction_b1, sPar, aCons, aNil, eVar, eNary, conts, clInt, opMod, toVl, wNext]
      exact h2
theorem S_lfraction {t : Int} {b : Nat} (h0 : 0 < b) (h1 : b ≤ 1000) : F__law_fraction [.fz (.int t), .fz (.int b)] = some (.fz (frac t b), [.fz (.int t), .fz (.int b)]) := by
  have hg1 : 0 < Nat.gcd t.natAbs b := Nat.gcd_pos_of_pos_right _ h0
  have hg2 : Nat.gcd t.natAbs b ≤ b := Nat.gcd_le_right _ h0
  have e := W_lf b t.natAbs (.fz (.int t)) (.fz (.int b))
  have hl := log_ok (g := Nat.gcd t.natAbs b) (by omega)
  unfold frac
  have hb : ¬ (b : Int) < 0 := by omega
  rw [← abs_nat] at e
  generalize Nat.gcd t.natAbs b = g at *
  simp [F__law_fraction, fnF, prepP, finP, sNil, sSeq, sIf, sRet, sRetN, sExpr, sSet, sPar, sPar3, sAsg, sSetIx, sFor, gNm, gTp, gsNil, gsCons, eVar, ePk, eMv, eBor, eC, eBin, eNeg, eAndF, eOrF, eNotF, eIf, eChain, eTup, eLst, eNary, eCall, eMeth, eMake, eFld, eSl, oSome, oNone, aNil, aCons, tOf, tAndF, tOrF, tNotF, cont, conts, tmpOf, valOf, valsOf, toVl, Vl.sl, putB, iSeq, seqOf, iRange1, iRange2, iZip2, iZip3, iEnum, opAdd, opSub, opMul, opMod, opFdiv, opPow, opEq, opNe, opLt, opLe, opGt, opGe, opCmp, opIs, opIsNot, opIx, opSl, isNon, clLen, clAbs, clInt, clMax, clMin, clMax2, clMin2, clSum, clSum2, clAll, clAny, clTuple, clList, clIsi, isTy, isAny, tyP, subTy, eAppend, eExtend, datN_i, datN_n, datN_b, datN_l, datN_t, datNs_Ints, datNs_nil, eqP_ii, eqP_ll, eqP_tt, eqP_nn, eqP_bb, eqPs_Ints, eqPs_nn, eqPs_nc, eqPs_cn, lineN, e, opFdiv, hg1, hl]
theorem S_mean {p q : PV} {cs ss : List Int} (hp : Sq p (Ints cs)) (hq : Sq q (Ints ss)) (h : Ln cs ss) : F_mean_wait [.fz p, .fz q] = some (.fz (frac (wts cs ss (lvs none cs ss)).sum cs.length), [.fz p, .fz q]) := by
  have e := S_waits hp hq h
  have h1 := h.l1
  have h2 := h.l2
  have e2 := S_fraction (t := (wts cs ss (lvs none cs ss)).sum) (b := cs.length) (by omega) (by omega)
  have hl : (wts cs ss (lvs none cs ss)).length = cs.length := wts_len _ _ _ h.ls (lvs_len _ _ _ h.ls)
  rcases hp with rfl | rfl <;> rcases hq with rfl | rfl <;> simp [F_mean_wait, fnF, prepP, finP, sNil, sSeq, sIf, sRet, sRetN, sExpr, sSet, sPar, sPar3, sAsg, sSetIx, sFor, gNm, gTp, gsNil, gsCons, eVar, ePk, eMv, eBor, eC, eBin, eNeg, eAndF, eOrF, eNotF, eIf, eChain, eTup, eLst, eNary, eCall, eMeth, eMake, eFld, eSl, oSome, oNone, aNil, aCons, tOf, tAndF, tOrF, tNotF, cont, conts, tmpOf, valOf, valsOf, toVl, Vl.sl, putB, iSeq, seqOf, iRange1, iRange2, iZip2, iZip3, iEnum, opAdd, opSub, opMul, opMod, opFdiv, opPow, opEq, opNe, opLt, opLe, opGt, opGe, opCmp, opIs, opIsNot, opIx, opSl, isNon, clLen, clAbs, clInt, clMax, clMin, clMax2, clMin2, clSum, clSum2, clAll, clAny, clTuple, clList, clIsi, isTy, isAny, tyP, subTy, eAppend, eExtend, datN_i, datN_n, datN_b, datN_l, datN_t, datNs_Ints, datNs_nil, eqP_ii, eqP_ll, eqP_tt, eqP_nn, eqP_bb, eqPs_Ints, eqPs_nn, eqPs_nc, eqPs_cn, lineN, e, intsOf_Ints, Ints_len, hl, e2]
end Wk42
set_option Elab.async false
set_option linter.all false
set_option maxRecDepth 100000
set_option maxHeartbeats 1000000
namespace Wk42
open PySem PL
/-- pairs of numbers -/
def pPs (ps : List (Int × Int)) : List PV := ps.map fun x => .tup [.int x.1, .int x.2]
theorem pPs_nil : pPs [] = [] := rfl
theorem pPs_cons (x : Int × Int) (ps : List (Int × Int)) : pPs (x :: ps) = .tup [.int x.1, .int x.2] :: pPs ps := rfl
theorem pPs_len (ps : List (Int × Int)) : (pPs ps).length = ps.length := by unfold pPs; rw [List.length_map]
theorem pPs_mem {ps : List (Int × Int)} {p : PV} (h : p ∈ pPs ps) : ∃ a b, (a, b) ∈ ps ∧ p = .tup [.int a, .int b] := by
  obtain ⟨x, hx, e⟩ := List.mem_map.mp h
  exact ⟨x.1, x.2, hx, e.symm⟩
theorem pPs_snoc (f : List (Int × Int)) (a b : Int) : pPs f ++ [.tup [.int a, .int b]] = pPs (f ++ [(a, b)]) := by
  unfold pPs
  rw [List.map_append]; rfl
theorem zip_pPs : ∀ a b : List Int, zipP (Ints a) (Ints b) = pPs (a.zip b)
  | [], b => by simp [Ints_nil, zipP, pPs]
  | x :: a, [] => by simp [Ints_nil, Ints_cons, zipP, pPs]
  | x :: a, y :: b => by
    rw [Ints_cons, Ints_cons, zipP, zip_pPs a b]; rfl
def isLate (x : Int × Int) : Bool := decide (x.2 > x.1)
def tbLate : PV → Bool
  | .tup [.int a, .int b] => decide (b > a)
  | _ => false
theorem late_filter (ps : List (Int × Int)) : ((pPs ps).filter tbLate).map (fun p => p) = pPs (ps.filter isLate) := by
  unfold pPs
  rw [filt_map, List.map_map]
  rfl
theorem L_pauses (x0 x1 x2 : Sl) : ∀ (ps found : List (Int × Int)) (x4 x5 : Sl), found.length + ps.length ≤ 1000 → ∃ y4 y5, forP (gTp (gsCons (gNm 4) (gsCons (gNm 5) gsNil))) F_pauses_b1 (pPs ps) [x0, x1, x2, .own (pPs found), x4, x5] = some (.nx, [x0, x1, x2, .own (pPs (found ++ ps.filter isLate)), y4, y5])
  | [], found, x4, x5, _ => ⟨x4, x5, by simp [pPs_nil, forP]⟩
  | (a, b) :: ps, found, x4, x5, hl => by
    rw [List.length_cons] at hl
    have hf : (pPs found).length < 16777216 := by rw [pPs_len]; omega
    rw [pPs_cons, forP, List.filter_cons]
    by_cases h : b > a
    · obtain ⟨y4, y5, e⟩ := L_pauses x0 x1 x2 ps (found ++ [(a, b)]) (.fz (.int a)) (.fz (.int b)) (by simp; omega)
      refine ⟨y4, y5, ?_⟩
      have hi : isLate (a, b) = true := decide_eq_true h
      rw [if_pos hi]
      rw [List.append_assoc, List.singleton_append] at e
      rw [← e]
      have h' : a < b := h
      simp [F_pauses_b1, fnF, prepP, finP, sNil, sSeq, sIf, sRet, sRetN, sExpr, sSet, sPar, sPar3, sAsg, sSetIx, sFor, gNm, gTp, gsNil, gsCons, eVar, ePk, eMv, eBor, eC, eBin, eNeg, eAndF, eOrF, eNotF, eIf, eChain, eTup, eLst, eNary, eCall, eMeth, eMake, eFld, eSl, oSome, oNone, aNil, aCons, tOf, tAndF, tOrF, tNotF, cont, conts, tmpOf, valOf, valsOf, toVl, Vl.sl, putB, iSeq, seqOf, iRange1, iRange2, iZip2, iZip3, iEnum, opAdd, opSub, opMul, opMod, opFdiv, opPow, opEq, opNe, opLt, opLe, opGt, opGe, opCmp, opIs, opIsNot, opIx, opSl, isNon, clLen, clAbs, clInt, clMax, clMin, clMax2, clMin2, clSum, clSum2, clAll, clAny, clTuple, clList, clIsi, isTy, isAny, tyP, subTy, eAppend, eExtend, datN_i, datN_n, datN_b, datN_l, datN_t, datNs_Ints, datNs_nil, eqP_ii, eqP_ll, eqP_tt, eqP_nn, eqP_bb, eqPs_Ints, eqPs_nn, eqPs_nc, eqPs_cn, lineN, h', pPs_snoc, hf]
    · obtain ⟨y4, y5, e⟩ := L_pauses x0 x1 x2 ps found (.fz (.int a)) (.fz (.int b)) (by omega)
      refine ⟨y4, y5, ?_⟩
      have hi : ¬ isLate (a, b) = true := fun z => h (of_decide_eq_true z)
      rw [if_neg hi, ← e]
      have h' : ¬ a < b := h
      simp [F_pauses_b1, fnF, prepP, finP, sNil, sSeq, sIf, sRet, sRetN, sExpr, sSet, sPar, sPar3, sAsg, sSetIx, sFor, gNm, gTp, gsNil, gsCons, eVar, ePk, eMv, eBor, eC, eBin, eNeg, eAndF, eOrF, eNotF, eIf, eChain, eTup, eLst, eNary, eCall, eMeth, eMake, eFld, eSl, oSome, oNone, aNil, aCons, tOf, tAndF, tOrF, tNotF, cont, conts, tmpOf, valOf, valsOf, toVl, Vl.sl, putB, iSeq, seqOf, iRange1, iRange2, iZip2, iZip3, iEnum, opAdd, opSub, opMul, opMod, opFdiv, opPow, opEq, opNe, opLt, opLe, opGt, opGe, opCmp, opIs, opIsNot, opIx, opSl, isNon, clLen, clAbs, clInt, clMax, clMin, clMax2, clMin2, clSum, clSum2, clAll, clAny, clTuple, clList, clIsi, isTy, isAny, tyP, subTy, eAppend, eExtend, datN_i, datN_n, datN_b, datN_l, datN_t, datNs_Ints, datNs_nil, eqP_ii, eqP_ll, eqP_tt, eqP_nn, eqP_bb, eqPs_Ints, eqPs_nn, eqPs_nc, eqPs_cn, lineN, h']
/-- the waits of the desk -/
def idl (cs ss : List Int) : List (Int × Int) := ((lvs none cs ss).zip (cs.drop 1)).filter isLate
theorem S_pauses {cs ss : List Int} (h : Ln cs ss) : F_pauses [.fz (.lst (Ints cs)), .fz (.lst (Ints ss))] = some (.own (pPs (idl cs ss)), [.fz (.lst (Ints cs)), .fz (.lst (Ints ss))]) := by
  have e := S_leaves (p := .lst (Ints cs)) (q := .lst (Ints ss)) (.inl rfl) (.inl rfl) h
  have hl : ((lvs none cs ss).zip (cs.drop 1)).length ≤ 1000 := by
    rw [List.length_zip, lvs_len _ _ _ h.ls]
    have := h.l2
    omega
  obtain ⟨y4, y5, e2⟩ := L_pauses (.fz (.lst (Ints cs))) (.fz (.lst (Ints ss))) (.fz (.tup (Ints (lvs none cs ss)))) ((lvs none cs ss).zip (cs.drop 1)) [] .un .un (by simpa using hl)
  rw [List.nil_append, ← zip_pPs] at e2
  have ct : cutP (Ints cs) (some 1) none = Ints (cs.drop 1) := by rw [cutP_Ints, cut_one]
  have e3 : F_pauses_f1 [.fz (.lst (Ints cs)), .fz (.lst (Ints ss)), .fz (.tup (Ints (lvs none cs ss))), .own [], .un, .un] = some (.nx, [.fz (.lst (Ints cs)), .fz (.lst (Ints ss)), .fz (.tup (Ints (lvs none cs ss))), .own (pPs (idl cs ss)), y4, y5]) := by
    rw [pPs_nil] at e2
    have e0 : iZip2 (aCons (eVar 2) (aCons (eSl (ePk 0) (oSome (eC (.int 1))) oNone) aNil)) [.fz (.lst (Ints cs)), .fz (.lst (Ints ss)), .fz (.tup (Ints (lvs none cs ss))), .own [], .un, .un] = some (zipP (Ints (lvs none cs ss)) (Ints (cs.drop 1)), [.fz (.tup (Ints (lvs none cs ss))), .own (Ints (cs.drop 1))], [.fz (.lst (Ints cs)), .fz (.lst (Ints ss)), .fz (.tup (Ints (lvs none cs ss))), .own [], .un, .un]) := by
      simp [fnF, prepP, finP, sNil, sSeq, sIf, sRet, sRetN, sExpr, sSet, sPar, sPar3, sAsg, sSetIx, sFor, gNm, gTp, gsNil, gsCons, eVar, ePk, eMv, eBor, eC, eBin, eNeg, eAndF, eOrF, eNotF, eIf, eChain, eTup, eLst, eNary, eCall, eMeth, eMake, eFld, eSl, oSome, oNone, aNil, aCons, tOf, tAndF, tOrF, tNotF, cont, conts, tmpOf, valOf, valsOf, toVl, Vl.sl, putB, iSeq, seqOf, iRange1, iRange2, iZip2, iZip3, iEnum, opAdd, opSub, opMul, opMod, opFdiv, opPow, opEq, opNe, opLt, opLe, opGt, opGe, opCmp, opIs, opIsNot, opIx, opSl, isNon, clLen, clAbs, clInt, clMax, clMin, clMax2, clMin2, clSum, clSum2, clAll, clAny, clTuple, clList, clIsi, isTy, isAny, tyP, subTy, eAppend, eExtend, datN_i, datN_n, datN_b, datN_l, datN_t, datNs_Ints, datNs_nil, eqP_ii, eqP_ll, eqP_tt, eqP_nn, eqP_bb, eqPs_Ints, eqPs_nn, eqPs_nc, eqPs_cn, lineN, ct]
    unfold F_pauses_f1 sFor
    rw [e0, Option.bind_some]
    exact e2
  simp [F_pauses, fnF, prepP, finP, sNil, sSeq, sIf, sRet, sRetN, sExpr, sSet, sPar, sPar3, sAsg, sSetIx, sFor, gNm, gTp, gsNil, gsCons, eVar, ePk, eMv, eBor, eC, eBin, eNeg, eAndF, eOrF, eNotF, eIf, eChain, eTup, eLst, eNary, eCall, eMeth, eMake, eFld, eSl, oSome, oNone, aNil, aCons, tOf, tAndF, tOrF, tNotF, cont, conts, tmpOf, valOf, valsOf, toVl, Vl.sl, putB, iSeq, seqOf, iRange1, iRange2, iZip2, iZip3, iEnum, opAdd, opSub, opMul, opMod, opFdiv, opPow, opEq, opNe, opLt, opLe, opGt, opGe, opCmp, opIs, opIsNot, opIx, opSl, isNon, clLen, clAbs, clInt, clMax, clMin, clMax2, clMin2, clSum, clSum2, clAll, clAny, clTuple, clList, clIsi, isTy, isAny, tyP, subTy, eAppend, eExtend, datN_i, datN_n, datN_b, datN_l, datN_t, datNs_Ints, datNs_nil, eqP_ii, eqP_ll, eqP_tt, eqP_nn, eqP_bb, eqPs_Ints, eqPs_nn, eqPs_nc, eqPs_cn, lineN, e, e3]
/-- how many are there at a time -/
def isHere (t : Int) (x : Int × Int) : Bool := decide (x.1 ≤ t) && decide (t < x.2)
def cnt (cs ds : List Int) (t : Int) : Nat := ((cs.zip ds).filter (isHere t)).length
def tbHere (t : Int) : PV → Bool
  | .tup [.int a, .int b] => decide (a ≤ t) && decide (t < b)
  | _ => false
theorem here_filter (t : Int) (ps : List (Int × Int)) : (((pPs ps).filter (tbHere t)).map fun _ => PV.int 1).length = (ps.filter (isHere t)).length := by
  rw [List.length_map]
  unfold pPs
  rw [filt_map, List.length_map]
  rfl
theorem T_room {p : PV} {cs ds : List Int} (hp : Sq p (Ints cs)) (x1 x3 x5 : Sl) (t : Int) : F_room_l1 [.fz p, x1, .fz (.tup (Ints ds)), x3, .fz (.int t), x5, .un, .un] = some (.own (((pPs (cs.zip ds)).filter (tbHere t)).map fun _ => PV.int 1), [.fz p, x1, .fz (.tup (Ints ds)), x3, .fz (.int t), x5, .un, .un]) := by
  rw [← zip_pPs]
  refine eLc_if (items := zipP (Ints cs) (Ints ds)) (rs := [.fz p, .fz (.tup (Ints ds))]) (tbHere t) (fun _ => .int 1) (by rcases hp with rfl | rfl <;> simp [fnF, prepP, finP, sNil, sSeq, sIf, sRet, sRetN, sExpr, sSet, sPar, sPar3, sAsg, sSetIx, sFor, gNm, gTp, gsNil, gsCons, eVar, ePk, eMv, eBor, eC, eBin, eNeg, eAndF, eOrF, eNotF, eIf, eChain, eTup, eLst, eNary, eCall, eMeth, eMake, eFld, eSl, oSome, oNone, aNil, aCons, tOf, tAndF, tOrF, tNotF, cont, conts, tmpOf, valOf, valsOf, toVl, Vl.sl, putB, iSeq, seqOf, iRange1, iRange2, iZip2, iZip3, iEnum, opAdd, opSub, opMul, opMod, opFdiv, opPow, opEq, opNe, opLt, opLe, opGt, opGe, opCmp, opIs, opIsNot, opIx, opSl, isNon, clLen, clAbs, clInt, clMax, clMin, clMax2, clMin2, clSum, clSum2, clAll, clAny, clTuple, clList, clIsi, isTy, isAny, tyP, subTy, eAppend, eExtend, datN_i, datN_n, datN_b, datN_l, datN_t, datNs_Ints, datNs_nil, eqP_ii, eqP_ll, eqP_tt, eqP_nn, eqP_bb, eqPs_Ints, eqPs_nn, eqPs_nc, eqPs_cn, lineN]) (by simp [fnF, prepP, finP, sNil, sSeq, sIf, sRet, sRetN, sExpr, sSet, sPar, sPar3, sAsg, sSetIx, sFor, gNm, gTp, gsNil, gsCons, eVar, ePk, eMv, eBor, eC, eBin, eNeg, eAndF, eOrF, eNotF, eIf, eChain, eTup, eLst, eNary, eCall, eMeth, eMake, eFld, eSl, oSome, oNone, aNil, aCons, tOf, tAndF, tOrF, tNotF, cont, conts, tmpOf, valOf, valsOf, toVl, Vl.sl, putB, iSeq, seqOf, iRange1, iRange2, iZip2, iZip3, iEnum, opAdd, opSub, opMul, opMod, opFdiv, opPow, opEq, opNe, opLt, opLe, opGt, opGe, opCmp, opIs, opIsNot, opIx, opSl, isNon, clLen, clAbs, clInt, clMax, clMin, clMax2, clMin2, clSum, clSum2, clAll, clAny, clTuple, clList, clIsi, isTy, isAny, tyP, subTy, eAppend, eExtend, datN_i, datN_n, datN_b, datN_l, datN_t, datNs_Ints, datNs_nil, eqP_ii, eqP_ll, eqP_tt, eqP_nn, eqP_bb, eqPs_Ints, eqPs_nn, eqPs_nc, eqPs_cn, lineN]) (by decide) (by simp) fun z hz => ?_
  rw [zip_pPs] at hz
  obtain ⟨a, b, _, rfl⟩ := pPs_mem hz
  refine ⟨_, [.fz (.int a), .fz (.int b)], by simp [fnF, prepP, finP, sNil, sSeq, sIf, sRet, sRetN, sExpr, sSet, sPar, sPar3, sAsg, sSetIx, sFor, gNm, gTp, gsNil, gsCons, eVar, ePk, eMv, eBor, eC, eBin, eNeg, eAndF, eOrF, eNotF, eIf, eChain, eTup, eLst, eNary, eCall, eMeth, eMake, eFld, eSl, oSome, oNone, aNil, aCons, tOf, tAndF, tOrF, tNotF, cont, conts, tmpOf, valOf, valsOf, toVl, Vl.sl, putB, iSeq, seqOf, iRange1, iRange2, iZip2, iZip3, iEnum, opAdd, opSub, opMul, opMod, opFdiv, opPow, opEq, opNe, opLt, opLe, opGt, opGe, opCmp, opIs, opIsNot, opIx, opSl, isNon, clLen, clAbs, clInt, clMax, clMin, clMax2, clMin2, clSum, clSum2, clAll, clAny, clTuple, clList, clIsi, isTy, isAny, tyP, subTy, eAppend, eExtend, datN_i, datN_n, datN_b, datN_l, datN_t, datNs_Ints, datNs_nil, eqP_ii, eqP_ll, eqP_tt, eqP_nn, eqP_bb, eqPs_Ints, eqPs_nn, eqPs_nc, eqPs_cn, lineN, wipeS]; rfl, rfl, ?_, fun _ => ⟨.fz (.int 1), [.fz (.int a), .fz (.int b)], rfl, ?_, rfl⟩⟩
  · by_cases h1 : a ≤ t <;> by_cases h2 : t < b <;> simp [fnF, prepP, finP, sNil, sSeq, sIf, sRet, sRetN, sExpr, sSet, sPar, sPar3, sAsg, sSetIx, sFor, gNm, gTp, gsNil, gsCons, eVar, ePk, eMv, eBor, eC, eBin, eNeg, eAndF, eOrF, eNotF, eIf, eChain, eTup, eLst, eNary, eCall, eMeth, eMake, eFld, eSl, oSome, oNone, aNil, aCons, tOf, tAndF, tOrF, tNotF, cont, conts, tmpOf, valOf, valsOf, toVl, Vl.sl, putB, iSeq, seqOf, iRange1, iRange2, iZip2, iZip3, iEnum, opAdd, opSub, opMul, opMod, opFdiv, opPow, opEq, opNe, opLt, opLe, opGt, opGe, opCmp, opIs, opIsNot, opIx, opSl, isNon, clLen, clAbs, clInt, clMax, clMin, clMax2, clMin2, clSum, clSum2, clAll, clAny, clTuple, clList, clIsi, isTy, isAny, tyP, subTy, eAppend, eExtend, datN_i, datN_n, datN_b, datN_l, datN_t, datNs_Ints, datNs_nil, eqP_ii, eqP_ll, eqP_tt, eqP_nn, eqP_bb, eqPs_Ints, eqPs_nn, eqPs_nc, eqPs_cn, lineN, backS, tbHere, h1, h2]
  · simp [fnF, prepP, finP, sNil, sSeq, sIf, sRet, sRetN, sExpr, sSet, sPar, sPar3, sAsg, sSetIx, sFor, gNm, gTp, gsNil, gsCons, eVar, ePk, eMv, eBor, eC, eBin, eNeg, eAndF, eOrF, eNotF, eIf, eChain, eTup, eLst, eNary, eCall, eMeth, eMake, eFld, eSl, oSome, oNone, aNil, aCons, tOf, tAndF, tOrF, tNotF, cont, conts, tmpOf, valOf, valsOf, toVl, Vl.sl, putB, iSeq, seqOf, iRange1, iRange2, iZip2, iZip3, iEnum, opAdd, opSub, opMul, opMod, opFdiv, opPow, opEq, opNe, opLt, opLe, opGt, opGe, opCmp, opIs, opIsNot, opIx, opSl, isNon, clLen, clAbs, clInt, clMax, clMin, clMax2, clMin2, clSum, clSum2, clAll, clAny, clTuple, clList, clIsi, isTy, isAny, tyP, subTy, eAppend, eExtend, datN_i, datN_n, datN_b, datN_l, datN_t, datNs_Ints, datNs_nil, eqP_ii, eqP_ll, eqP_tt, eqP_nn, eqP_bb, eqPs_Ints, eqPs_nn, eqPs_nc, eqPs_cn, lineN, backS]
/-- the greatest number of those there, looked at when someone comes -/
def rm (cs ds : List Int) : List Int → Int → Int
  | [], b => b
  | c :: r, b => rm cs ds r (max b (cnt cs ds c))
theorem L_room {p : PV} {cs ds : List Int} (hp : Sq p (Ints cs)) (x1 : Sl) : ∀ (r : List Int) (b : Int) (x4 x5 : Sl), ∃ y4 y5, forP (gNm 4) F_room_b1 (Ints r) [.fz p, x1, .fz (.tup (Ints ds)), .fz (.int b), x4, x5, .un, .un] = some (.nx, [.fz p, x1, .fz (.tup (Ints ds)), .fz (.int (rm cs ds r b)), y4, y5, .un, .un])
  | [], b, x4, x5 => ⟨x4, x5, rfl⟩
  | c :: r, b, x4, x5 => by
    obtain ⟨y4, y5, e⟩ := L_room hp x1 r (max b (cnt cs ds c)) (.fz (.int c)) (.fz (.int (cnt cs ds c)))
    refine ⟨y4, y5, ?_⟩
    have e1 := T_room (ds := ds) hp x1 (.fz (.int b)) x5 c
    have e2 := here_filter c (cs.zip ds)
    rw [Ints_cons, forP, rm, ← e]
    generalize (((pPs (cs.zip ds)).filter (tbHere c)).map fun _ => PV.int 1) = L at *
    have e3 : L.length = cnt cs ds c := e2
    simp [F_room_b1, fnF, prepP, finP, sNil, sSeq, sIf, sRet, sRetN, sExpr, sSet, sPar, sPar3, sAsg, sSetIx, sFor, gNm, gTp, gsNil, gsCons, eVar, ePk, eMv, eBor, eC, eBin, eNeg, eAndF, eOrF, eNotF, eIf, eChain, eTup, eLst, eNary, eCall, eMeth, eMake, eFld, eSl, oSome, oNone, aNil, aCons, tOf, tAndF, tOrF, tNotF, cont, conts, tmpOf, valOf, valsOf, toVl, Vl.sl, putB, iSeq, seqOf, iRange1, iRange2, iZip2, iZip3, iEnum, opAdd, opSub, opMul, opMod, opFdiv, opPow, opEq, opNe, opLt, opLe, opGt, opGe, opCmp, opIs, opIsNot, opIx, opSl, isNon, clLen, clAbs, clInt, clMax, clMin, clMax2, clMin2, clSum, clSum2, clAll, clAny, clTuple, clList, clIsi, isTy, isAny, tyP, subTy, eAppend, eExtend, datN_i, datN_n, datN_b, datN_l, datN_t, datNs_Ints, datNs_nil, eqP_ii, eqP_ll, eqP_tt, eqP_nn, eqP_bb, eqPs_Ints, eqPs_nn, eqPs_nc, eqPs_cn, lineN, e1, e3]
theorem S_room {cs ss : List Int} (h : Ln cs ss) : F_room [.fz (.lst (Ints cs)), .fz (.lst (Ints ss))] = some (.fz (.int (rm cs (lvs none cs ss) cs 0)), [.fz (.lst (Ints cs)), .fz (.lst (Ints ss))]) := by
  have e := S_leaves (p := .lst (Ints cs)) (q := .lst (Ints ss)) (.inl rfl) (.inl rfl) h
  obtain ⟨y4, y5, e2⟩ := L_room (p := .lst (Ints cs)) (ds := lvs none cs ss) (.inl rfl) (.fz (.lst (Ints ss))) cs 0 .un .un
  have e3 : F_room_f1 [.fz (.lst (Ints cs)), .fz (.lst (Ints ss)), .fz (.tup (Ints (lvs none cs ss))), .fz (.int 0), .un, .un, .un, .un] = some (.nx, [.fz (.lst (Ints cs)), .fz (.lst (Ints ss)), .fz (.tup (Ints (lvs none cs ss))), .fz (.int (rm cs (lvs none cs ss) cs 0)), y4, y5, .un, .un]) := by
    simp [F_room_f1, fnF, prepP, finP, sNil, sSeq, sIf, sRet, sRetN, sExpr, sSet, sPar, sPar3, sAsg, sSetIx, sFor, gNm, gTp, gsNil, gsCons, eVar, ePk, eMv, eBor, eC, eBin, eNeg, eAndF, eOrF, eNotF, eIf, eChain, eTup, eLst, eNary, eCall, eMeth, eMake, eFld, eSl, oSome, oNone, aNil, aCons, tOf, tAndF, tOrF, tNotF, cont, conts, tmpOf, valOf, valsOf, toVl, Vl.sl, putB, iSeq, seqOf, iRange1, iRange2, iZip2, iZip3, iEnum, opAdd, opSub, opMul, opMod, opFdiv, opPow, opEq, opNe, opLt, opLe, opGt, opGe, opCmp, opIs, opIsNot, opIx, opSl, isNon, clLen, clAbs, clInt, clMax, clMin, clMax2, clMin2, clSum, clSum2, clAll, clAny, clTuple, clList, clIsi, isTy, isAny, tyP, subTy, eAppend, eExtend, datN_i, datN_n, datN_b, datN_l, datN_t, datNs_Ints, datNs_nil, eqP_ii, eqP_ll, eqP_tt, eqP_nn, eqP_bb, eqPs_Ints, eqPs_nn, eqPs_nc, eqPs_cn, lineN]
    exact e2
  simp [F_room, fnF, prepP, finP, sNil, sSeq, sIf, sRet, sRetN, sExpr, sSet, sPar, sPar3, sAsg, sSetIx, sFor, gNm, gTp, gsNil, gsCons, eVar, ePk, eMv, eBor, eC, eBin, eNeg, eAndF, eOrF, eNotF, eIf, eChain, eTup, eLst, eNary, eCall, eMeth, eMake, eFld, eSl, oSome, oNone, aNil, aCons, tOf, tAndF, tOrF, tNotF, cont, conts, tmpOf, valOf, valsOf, toVl, Vl.sl, putB, iSeq, seqOf, iRange1, iRange2, iZip2, iZip3, iEnum, opAdd, opSub, opMul, opMod, opFdiv, opPow, opEq, opNe, opLt, opLe, opGt, opGe, opCmp, opIs, opIsNot, opIx, opSl, isNon, clLen, clAbs, clInt, clMax, clMin, clMax2, clMin2, clSum, clSum2, clAll, clAny, clTuple, clList, clIsi, isTy, isAny, tyP, subTy, eAppend, eExtend, datN_i, datN_n, datN_b, datN_l, datN_t, datNs_Ints, datNs_nil, eqP_ii, eqP_ll, eqP_tt, eqP_nn, eqP_bb, eqPs_Ints, eqPs_nn, eqPs_nc, eqPs_cn, lineN, e, e3]
end Wk42
set_option Elab.async false
set_option linter.all false
set_option maxRecDepth 100000
set_option maxHeartbeats 1000000
namespace Wk42
open PySem PL
theorem forP_find {g : PGF} {body : PSF} {I : List Sl → Prop} (tst : PV → Bool) : ∀ (items : List PV) (ρ : List Sl), I ρ → (∀ p ∈ items, ∀ ρ, I ρ → ∃ ρ1 ρ2, g p ρ = some ρ1 ∧ I ρ2 ∧ body ρ1 = some (if tst p = true then .rt (.fz p) else .nx, ρ2)) → ∃ ρ', I ρ' ∧ forP g body items ρ = some (match items.find? tst with | none => .nx | some p => .rt (.fz p), ρ')
  | [], ρ, h, _ => ⟨ρ, h, rfl⟩
  | p :: ps, ρ, h, st => by
    obtain ⟨ρ1, ρ2, h1, h2, h3⟩ := st p List.mem_cons_self ρ h
    rw [forP, h1, Option.bind_some, h3, Option.bind_some, List.find?_cons]
    cases hk : tst p with
    | false =>
      obtain ⟨ρ', h4, e⟩ := forP_find tst ps ρ2 h2 fun q hq => st q (List.mem_cons_of_mem _ hq)
      exact ⟨ρ', h4, e⟩
    | true => exact ⟨ρ2, h2, rfl⟩
/-- coming and the serving from someone on till a person -/
def sm (cs ss : List Int) (a f : Nat) : Int := cs.getD f 0 + ((ss.drop f).take (a + 1 - f)).sum
def sms (cs ss : List Int) (a : Nat) : List Int := (List.range (a + 1)).map (sm cs ss a)
theorem sms_len (cs ss : List Int) (a : Nat) : (sms cs ss a).length = a + 1 := by unfold sms; rw [List.length_map, List.length_range]
theorem atI_Ints {xs : List Int} {f : Nat} (h : f < xs.length) : L2.atI (Ints xs) (f : Int) = some (.int (xs.getD f 0)) := by
  unfold L2.atI
  rw [ixN_nat (by rw [Ints_len]; exact h), Option.bind_some]
  unfold Ints
  rw [List.getElem?_map, List.getD_eq_getElem?_getD, List.getElem?_eq_getElem h]; rfl
theorem idxP_ex {q : PV} : ∀ {xs : List PV}, (∃ x ∈ xs, eqP x q = true) → ∃ j, idxP q xs = some j
  | [], ⟨x, hx, _⟩ => by simp at hx
  | y :: xs, ⟨x, hx, h⟩ => by
    unfold idxP
    by_cases c : eqP y q = true
    · exact ⟨0, by rw [if_pos c]⟩
    · rw [if_neg c]
      obtain ⟨j, hj⟩ := idxP_ex (q := q) (xs := xs) ⟨x, (List.mem_cons.mp hx).resolve_left (fun e => c (e ▸ h)), h⟩
      exact ⟨j + 1, by rw [hj]; rfl⟩
theorem find_rangeP {f : Nat → Int} {n j : Nat} {M : Int} (hj : idxP (.int M) (Ints ((List.range n).map f)) = some j) : (rangeP 0 n).find? (fun p => decide (f (jOf p) = M)) = some (.int (j : Nat)) := by
  obtain ⟨⟨z, h1, h2⟩, h3⟩ := idxP_spec hj
  have get : ∀ m, m < n → (Ints ((List.range n).map f))[m]? = some (.int (f m)) := fun m hm => by
    unfold Ints
    rw [List.getElem?_map, List.getElem?_map, List.getElem?_range hm]; rfl
  have hjn : j < n := by
    have := (List.getElem?_eq_some_iff.mp h1).1
    rwa [Ints_len, List.length_map, List.length_range] at this
  have e1 := get j hjn
  rw [h1] at e1
  cases e1
  rw [eqP_ii] at h2
  have hM : f j = M := by simpa using h2
  unfold rangeP
  rw [List.find?_map]
  have e2 : (List.range n).find? ((fun p => decide (f (jOf p) = M)) ∘ fun k : Nat => PV.int (0 + (k : Nat))) = some j := by
    rw [List.find?_range_eq_some]
    have hk : ∀ k : Nat, ((fun p => decide (f (jOf p) = M)) ∘ fun k : Nat => PV.int (0 + (k : Nat))) k = decide (f k = M) := fun k => by
      show decide (f (Int.toNat (0 + (k : Nat))) = M) = decide (f k = M)
      rw [Int.zero_add]; rfl
    refine ⟨?_, List.mem_range.mpr hjn, fun m hm => ?_⟩
    · rw [hk]; exact decide_eq_true hM
    · rw [hk]
      have := h3 m _ hm (get m (by omega))
      rw [eqP_ii] at this
      have hne : ¬ f m = M := by simpa using this
      simp [hne]
  rw [e2, Option.map_some, Int.zero_add]
theorem idx_max {xs : List Int} (h : xs ≠ []) : ∃ j, idxP (.int (maxL xs)) (Ints xs) = some j ∧ j < xs.length := by
  obtain ⟨j, hj⟩ := idxP_ex (q := .int (maxL xs)) (xs := Ints xs) ⟨.int (maxL xs), List.mem_map.mpr ⟨_, maxL_mem h, rfl⟩, by rw [eqP_ii]; simp⟩
  refine ⟨j, hj, ?_⟩
  obtain ⟨⟨z, h1, _⟩, _⟩ := idxP_spec hj
  have := (List.getElem?_eq_some_iff.mp h1).1
  rwa [Ints_len] at this
theorem sms_ne (cs ss : List Int) (a : Nat) : sms cs ss a ≠ [] := fun h => by
  have := sms_len cs ss a
  rw [h] at this
  simp at this
theorem B_reason {p q : PV} {cs ss : List Int} {a f : Nat} {M : Int} (hp : Sq p (Ints cs)) (hq : Sq q (Ints ss)) (hl : ss.length = cs.length) (ha : a < cs.length) (hf : f < a + 1) : F_reason_b1 [.fz p, .fz q, .fz (.int a), .fz (.int M), .fz (.int f)] = some (if decide (sm cs ss a f = M) = true then .rt (.fz (.int f)) else .nx, [.fz p, .fz q, .fz (.int a), .fz (.int M), .fz (.int f)]) := by
  have k1 := atI_Ints (xs := cs) (f := f) (by omega)
  have k2 : intsOf (cutP (Ints ss) (some (f : Int)) (some ((a : Int) + 1))) = some ((ss.drop f).take (a + 1 - f)) := by rw [cutP_Ints, cut_fa (by omega) (by rw [hl]; exact ha), intsOf_Ints]
  have k4 : sm cs ss a f = cs.getD f 0 + ((ss.drop f).take (a + 1 - f)).sum := rfl
  rw [k4]
  unfold F_reason_b1
  by_cases c : cs.getD f 0 + ((ss.drop f).take (a + 1 - f)).sum = M
  · rw [if_pos (decide_eq_true c)]
    rcases hp with rfl | rfl <;> rcases hq with rfl | rfl <;> (first | (apply Eq.trans; apply PL.stIfT; apply Eq.trans; apply PL.stOf; apply Eq.trans; apply PL.stBin; apply Eq.trans; apply PL.stBin; apply Eq.trans; apply PL.stBin; apply Eq.trans; apply PL.stPk; rfl; rfl; apply Eq.trans; apply PL.stPk; rfl; rfl; rfl; rfl; apply Eq.trans; apply PL.opIx_l; exact k1; rfl; rfl; apply Eq.trans; apply PL.stNary; apply Eq.trans; apply PL.stCons; apply Eq.trans; apply PL.stSl; apply Eq.trans; apply PL.stPk; rfl; rfl; apply Eq.trans; apply PL.stoS; apply Eq.trans; apply PL.stPk; rfl; rfl; rfl; apply Eq.trans; apply PL.stoS; apply Eq.trans; apply PL.stBin; apply Eq.trans; apply PL.stPk; rfl; rfl; apply Eq.trans; apply PL.stC; rfl; rfl; rfl; rfl; rfl; rfl; rfl; rfl; rfl; apply Eq.trans; apply PL.stNil; rfl; rfl; rfl; apply Eq.trans; apply PL.clSum2_l; exact k2; rfl; rfl; rfl; rfl; rfl; rfl; apply Eq.trans; apply PL.stPk; rfl; rfl; rfl; rfl; apply Eq.trans; apply PL.opEq_ii; rfl; rfl; rfl; exact (decide_eq_true (by first | with_reducible assumption | rfl | omega | (simp only [*]; done))); apply Eq.trans; apply PL.stRet; apply Eq.trans; apply PL.stVar; rfl; rfl; rfl; rfl; rfl) | (apply Eq.trans; apply PL.stIfT; apply Eq.trans; apply PL.stOf; apply Eq.trans; apply PL.stBin; apply Eq.trans; apply PL.stBin; apply Eq.trans; apply PL.stBin; apply Eq.trans; apply PL.stPk; rfl; rfl; apply Eq.trans; apply PL.stPk; rfl; rfl; rfl; rfl; apply Eq.trans; apply PL.opIx_l; exact k1; rfl; rfl; apply Eq.trans; apply PL.stNary; apply Eq.trans; apply PL.stCons; apply Eq.trans; apply PL.stSl; apply Eq.trans; apply PL.stPk; rfl; rfl; apply Eq.trans; apply PL.stoS; apply Eq.trans; apply PL.stPk; rfl; rfl; rfl; apply Eq.trans; apply PL.stoS; apply Eq.trans; apply PL.stBin; apply Eq.trans; apply PL.stPk; rfl; rfl; apply Eq.trans; apply PL.stC; rfl; rfl; rfl; rfl; rfl; rfl; rfl; rfl; rfl; apply Eq.trans; apply PL.stNil; rfl; rfl; rfl; apply Eq.trans; apply PL.clSum2_t; exact k2; rfl; rfl; rfl; rfl; rfl; rfl; apply Eq.trans; apply PL.stPk; rfl; rfl; rfl; rfl; apply Eq.trans; apply PL.opEq_ii; rfl; rfl; rfl; exact (decide_eq_true (by first | with_reducible assumption | rfl | omega | (simp only [*]; done))); apply Eq.trans; apply PL.stRet; apply Eq.trans; apply PL.stVar; rfl; rfl; rfl; rfl; rfl) | (apply Eq.trans; apply PL.stIfT; apply Eq.trans; apply PL.stOf; apply Eq.trans; apply PL.stBin; apply Eq.trans; apply PL.stBin; apply Eq.trans; apply PL.stBin; apply Eq.trans; apply PL.stPk; rfl; rfl; apply Eq.trans; apply PL.stPk; rfl; rfl; rfl; rfl; apply Eq.trans; apply PL.opIx_t; exact k1; rfl; rfl; apply Eq.trans; apply PL.stNary; apply Eq.trans; apply PL.stCons; apply Eq.trans; apply PL.stSl; apply Eq.trans; apply PL.stPk; rfl; rfl; apply Eq.trans; apply PL.stoS; apply Eq.trans; apply PL.stPk; rfl; rfl; rfl; apply Eq.trans; apply PL.stoS; apply Eq.trans; apply PL.stBin; apply Eq.trans; apply PL.stPk; rfl; rfl; apply Eq.trans; apply PL.stC; rfl; rfl; rfl; rfl; rfl; rfl; rfl; rfl; rfl; apply Eq.trans; apply PL.stNil; rfl; rfl; rfl; apply Eq.trans; apply PL.clSum2_l; exact k2; rfl; rfl; rfl; rfl; rfl; rfl; apply Eq.trans; apply PL.stPk; rfl; rfl; rfl; rfl; apply Eq.trans; apply PL.opEq_ii; rfl; rfl; rfl; exact (decide_eq_true (by first | with_reducible assumption | rfl | omega | (simp only [*]; done))); apply Eq.trans; apply PL.stRet; apply Eq.trans; apply PL.stVar; rfl; rfl; rfl; rfl; rfl) | (apply Eq.trans; apply PL.stIfT; apply Eq.trans; apply PL.stOf; apply Eq.trans; apply PL.stBin; apply Eq.trans; apply PL.stBin; apply Eq.trans; apply PL.stBin; apply Eq.trans; apply PL.stPk; rfl; rfl; apply Eq.trans; apply PL.stPk; rfl; rfl; rfl; rfl; apply Eq.trans; apply PL.opIx_t; exact k1; rfl; rfl; apply Eq.trans; apply PL.stNary; apply Eq.trans; apply PL.stCons; apply Eq.trans; apply PL.stSl; apply Eq.trans; apply PL.stPk; rfl; rfl; apply Eq.trans; apply PL.stoS; apply Eq.trans; apply PL.stPk; rfl; rfl; rfl; apply Eq.trans; apply PL.stoS; apply Eq.trans; apply PL.stBin; apply Eq.trans; apply PL.stPk; rfl; rfl; apply Eq.trans; apply PL.stC; rfl; rfl; rfl; rfl; rfl; rfl; rfl; rfl; rfl; apply Eq.trans; apply PL.stNil; rfl; rfl; rfl; apply Eq.trans; apply PL.clSum2_t; exact k2; rfl; rfl; rfl; rfl; rfl; rfl; apply Eq.trans; apply PL.stPk; rfl; rfl; rfl; rfl; apply Eq.trans; apply PL.opEq_ii; rfl; rfl; rfl; exact (decide_eq_true (by first | with_reducible assumption | rfl | omega | (simp only [*]; done))); apply Eq.trans; apply PL.stRet; apply Eq.trans; apply PL.stVar; rfl; rfl; rfl; rfl; rfl))
  · rw [if_neg (by simpa using c)]
    rcases hp with rfl | rfl <;> rcases hq with rfl | rfl <;> (first | (apply Eq.trans; apply PL.stIfN; apply Eq.trans; apply PL.stOf; apply Eq.trans; apply PL.stBin; apply Eq.trans; apply PL.stBin; apply Eq.trans; apply PL.stBin; apply Eq.trans; apply PL.stPk; rfl; rfl; apply Eq.trans; apply PL.stPk; rfl; rfl; rfl; rfl; apply Eq.trans; apply PL.opIx_l; exact k1; rfl; rfl; apply Eq.trans; apply PL.stNary; apply Eq.trans; apply PL.stCons; apply Eq.trans; apply PL.stSl; apply Eq.trans; apply PL.stPk; rfl; rfl; apply Eq.trans; apply PL.stoS; apply Eq.trans; apply PL.stPk; rfl; rfl; rfl; apply Eq.trans; apply PL.stoS; apply Eq.trans; apply PL.stBin; apply Eq.trans; apply PL.stPk; rfl; rfl; apply Eq.trans; apply PL.stC; rfl; rfl; rfl; rfl; rfl; rfl; rfl; rfl; rfl; apply Eq.trans; apply PL.stNil; rfl; rfl; rfl; apply Eq.trans; apply PL.clSum2_l; exact k2; rfl; rfl; rfl; rfl; rfl; rfl; apply Eq.trans; apply PL.stPk; rfl; rfl; rfl; rfl; apply Eq.trans; apply PL.opEq_ii; rfl; rfl; rfl; exact (decide_eq_false (by first | with_reducible assumption | rfl | omega | (simp only [*]; done))); apply Eq.trans; apply PL.stNilS; rfl; rfl) | (apply Eq.trans; apply PL.stIfN; apply Eq.trans; apply PL.stOf; apply Eq.trans; apply PL.stBin; apply Eq.trans; apply PL.stBin; apply Eq.trans; apply PL.stBin; apply Eq.trans; apply PL.stPk; rfl; rfl; apply Eq.trans; apply PL.stPk; rfl; rfl; rfl; rfl; apply Eq.trans; apply PL.opIx_l; exact k1; rfl; rfl; apply Eq.trans; apply PL.stNary; apply Eq.trans; apply PL.stCons; apply Eq.trans; apply PL.stSl; apply Eq.trans; apply PL.stPk; rfl; rfl; apply Eq.trans; apply PL.stoS; apply Eq.trans; apply PL.stPk; rfl; rfl; rfl; apply Eq.trans; apply PL.stoS; apply Eq.trans; apply PL.stBin; apply Eq.trans; apply PL.stPk; rfl; rfl; apply Eq.trans; apply PL.stC; rfl; rfl; rfl; rfl; rfl; rfl; rfl; rfl; rfl; apply Eq.trans; apply PL.stNil; rfl; rfl; rfl; apply Eq.trans; apply PL.clSum2_t; exact k2; rfl; rfl; rfl; rfl; rfl; rfl; apply Eq.trans; apply PL.stPk; rfl; rfl; rfl; rfl; apply Eq.trans; apply PL.opEq_ii; rfl; rfl; rfl; exact (decide_eq_false (by first | with_reducible assumption | rfl | omega | (simp only [*]; done))); apply Eq.trans; apply PL.stNilS; rfl; rfl) | (apply Eq.trans; apply PL.stIfN; apply Eq.trans; apply PL.stOf; apply Eq.trans; apply PL.stBin; apply Eq.trans; apply PL.stBin; apply Eq.trans; apply PL.stBin; apply Eq.trans; apply PL.stPk; rfl; rfl; apply Eq.trans; apply PL.stPk; rfl; rfl; rfl; rfl; apply Eq.trans; apply PL.opIx_t; exact k1; rfl; rfl; apply Eq.trans; apply PL.stNary; apply Eq.trans; apply PL.stCons; apply Eq.trans; apply PL.stSl; apply Eq.trans; apply PL.stPk; rfl; rfl; apply Eq.trans; apply PL.stoS; apply Eq.trans; apply PL.stPk; rfl; rfl; rfl; apply Eq.trans; apply PL.stoS; apply Eq.trans; apply PL.stBin; apply Eq.trans; apply PL.stPk; rfl; rfl; apply Eq.trans; apply PL.stC; rfl; rfl; rfl; rfl; rfl; rfl; rfl; rfl; rfl; apply Eq.trans; apply PL.stNil; rfl; rfl; rfl; apply Eq.trans; apply PL.clSum2_l; exact k2; rfl; rfl; rfl; rfl; rfl; rfl; apply Eq.trans; apply PL.stPk; rfl; rfl; rfl; rfl; apply Eq.trans; apply PL.opEq_ii; rfl; rfl; rfl; exact (decide_eq_false (by first | with_reducible assumption | rfl | omega | (simp only [*]; done))); apply Eq.trans; apply PL.stNilS; rfl; rfl) | (apply Eq.trans; apply PL.stIfN; apply Eq.trans; apply PL.stOf; apply Eq.trans; apply PL.stBin; apply Eq.trans; apply PL.stBin; apply Eq.trans; apply PL.stBin; apply Eq.trans; apply PL.stPk; rfl; rfl; apply Eq.trans; apply PL.stPk; rfl; rfl; rfl; rfl; apply Eq.trans; apply PL.opIx_t; exact k1; rfl; rfl; apply Eq.trans; apply PL.stNary; apply Eq.trans; apply PL.stCons; apply Eq.trans; apply PL.stSl; apply Eq.trans; apply PL.stPk; rfl; rfl; apply Eq.trans; apply PL.stoS; apply Eq.trans; apply PL.stPk; rfl; rfl; rfl; apply Eq.trans; apply PL.stoS; apply Eq.trans; apply PL.stBin; apply Eq.trans; apply PL.stPk; rfl; rfl; apply Eq.trans; apply PL.stC; rfl; rfl; rfl; rfl; rfl; rfl; rfl; rfl; rfl; apply Eq.trans; apply PL.stNil; rfl; rfl; rfl; apply Eq.trans; apply PL.clSum2_t; exact k2; rfl; rfl; rfl; rfl; rfl; rfl; apply Eq.trans; apply PL.stPk; rfl; rfl; rfl; rfl; apply Eq.trans; apply PL.opEq_ii; rfl; rfl; rfl; exact (decide_eq_false (by first | with_reducible assumption | rfl | omega | (simp only [*]; done))); apply Eq.trans; apply PL.stNilS; rfl; rfl))
theorem S_reason {cs ss : List Int} {a j : Nat} (h : Ln cs ss) (ha : a < cs.length) (hM : (lvs none cs ss).getD a 0 = maxL (sms cs ss a)) (hj : idxP (.int (maxL (sms cs ss a))) (Ints (sms cs ss a)) = some j) : F_reason [.fz (.lst (Ints cs)), .fz (.lst (Ints ss)), .fz (.int a)] = some (.fz (.int j), [.fz (.lst (Ints cs)), .fz (.lst (Ints ss)), .fz (.int a)]) := by
  have e := S_leaves (p := .lst (Ints cs)) (q := .lst (Ints ss)) (.inl rfl) (.inl rfl) h
  have e1 := S_check_line (p := .lst (Ints cs)) (q := .lst (Ints ss)) (.inl rfl) (.inl rfl) h
  have e2 := S_is_within (i := a) (lo := 0) (hi := (cs.length : Int) - 1) (by omega) (by omega)
  have e3 : L2.atI (Ints (lvs none cs ss)) (a : Int) = some (.int (maxL (sms cs ss a))) := by rw [← hM]; exact atI_Ints (by rw [lvs_len _ _ _ h.ls]; exact ha)
  have hf := find_rangeP (f := sm cs ss a) hj
  generalize maxL (sms cs ss a) = M at *
  obtain ⟨ρ', ⟨y4, hρ⟩, e4⟩ := forP_find (g := gNm 4) (body := F_reason_b1) (I := fun ρ => ∃ y4, ρ = [.fz (.lst (Ints cs)), .fz (.lst (Ints ss)), .fz (.int a), .fz (.int M), y4]) (fun p => decide (sm cs ss a (jOf p) = M)) (rangeP 0 (a + 1)) [.fz (.lst (Ints cs)), .fz (.lst (Ints ss)), .fz (.int a), .fz (.int M), .un] ⟨_, rfl⟩ fun p hp ρ ⟨y4, hρ⟩ => by
    subst hρ
    obtain ⟨f, hf, rfl⟩ := rangeP_mem hp
    exact ⟨_, _, rfl, ⟨.fz (.int f), rfl⟩, B_reason (.inl rfl) (.inl rfl) h.ls ha hf⟩
  subst hρ
  rw [hf] at e4
  have hn := h.l2
  have e5 : F_reason_f1 [.fz (.lst (Ints cs)), .fz (.lst (Ints ss)), .fz (.int a), .fz (.int M), .un] = some (.rt (.fz (.int j)), [.fz (.lst (Ints cs)), .fz (.lst (Ints ss)), .fz (.int a), .fz (.int M), y4]) := by
    have e0 := stRange1 (f := eBin opAdd (ePk 2) (eC (.int 1))) (ρ := [.fz (.lst (Ints cs)), .fz (.lst (Ints ss)), .fz (.int a), .fz (.int M), .un]) (ρ1 := [.fz (.lst (Ints cs)), .fz (.lst (Ints ss)), .fz (.int a), .fz (.int M), .un]) (n := a + 1) (i := (a : Int) + 1) (by simp [fnF, prepP, finP, sNil, sSeq, sIf, sRet, sRetN, sExpr, sSet, sPar, sPar3, sAsg, sSetIx, sFor, gNm, gTp, gsNil, gsCons, eVar, ePk, eMv, eBor, eC, eBin, eNeg, eAndF, eOrF, eNotF, eIf, eChain, eTup, eLst, eNary, eCall, eMeth, eMake, eFld, eSl, oSome, oNone, aNil, aCons, tOf, tAndF, tOrF, tNotF, cont, conts, tmpOf, valOf, valsOf, toVl, Vl.sl, putB, iSeq, seqOf, iRange1, iRange2, iZip2, iZip3, iEnum, opAdd, opSub, opMul, opMod, opFdiv, opPow, opEq, opNe, opLt, opLe, opGt, opGe, opCmp, opIs, opIsNot, opIx, opSl, isNon, clLen, clAbs, clInt, clMax, clMin, clMax2, clMin2, clSum, clSum2, clAll, clAny, clTuple, clList, clIsi, isTy, isAny, tyP, subTy, eAppend, eExtend, datN_i, datN_n, datN_b, datN_l, datN_t, datNs_Ints, datNs_nil, eqP_ii, eqP_ll, eqP_tt, eqP_nn, eqP_bb, eqPs_Ints, eqPs_nn, eqPs_nc, eqPs_cn, lineN]) (by simp) (by omega)
    unfold F_reason_f1 sFor
    rw [e0, Option.bind_some]
    exact e4
  have e6 : clLen [.lst (Ints cs)] = some (.fz (.int cs.length)) := clLen_l (Ints_len cs)
  unfold F_reason
  (apply Eq.trans; apply PL.stFn; apply PL.stSeqN; apply Eq.trans; apply PL.stExpr; apply Eq.trans; apply PL.stCall; apply Eq.trans; apply PL.stCons; apply Eq.trans; apply PL.stVar; rfl; rfl; apply Eq.trans; apply PL.stCons; apply Eq.trans; apply PL.stVar; rfl; rfl; apply Eq.trans; apply PL.stNil; rfl; rfl; rfl; exact e1; rfl; rfl; apply PL.stSeqN; apply Eq.trans; apply PL.stIfN; apply Eq.trans; apply PL.stNot; apply Eq.trans; apply PL.stOf; apply Eq.trans; apply PL.stCall; apply Eq.trans; apply PL.stCons; apply Eq.trans; apply PL.stVar; rfl; rfl; apply Eq.trans; apply PL.stCons; apply Eq.trans; apply PL.stC; rfl; apply Eq.trans; apply PL.stCons; apply Eq.trans; apply PL.stBin; apply Eq.trans; apply PL.stNary; apply Eq.trans; apply PL.stCons; apply Eq.trans; apply PL.stPk; rfl; rfl; apply Eq.trans; apply PL.stNil; rfl; rfl; rfl; exact e6; rfl; apply Eq.trans; apply PL.stC; rfl; rfl; rfl; rfl; rfl; apply Eq.trans; apply PL.stNil; rfl; rfl; rfl; rfl; exact e2; rfl; rfl; rfl; exact (PL.not_f rfl); apply Eq.trans; apply PL.stNilS; rfl; rfl; apply PL.stSeqN; apply Eq.trans; apply PL.stSet; apply Eq.trans; apply PL.stBin; apply Eq.trans; apply PL.stCall; apply Eq.trans; apply PL.stCons; apply Eq.trans; apply PL.stVar; rfl; rfl; apply Eq.trans; apply PL.stCons; apply Eq.trans; apply PL.stVar; rfl; rfl; apply Eq.trans; apply PL.stNil; rfl; rfl; rfl; exact e; rfl; apply Eq.trans; apply PL.stPk; rfl; rfl; rfl; rfl; apply Eq.trans; apply PL.opIx_t; exact e3; rfl; rfl; rfl; rfl; apply Eq.trans; apply PL.stSeqO; exact e5; rfl; rfl; rfl)
theorem S_within_no {i lo hi : Int} (h : ¬ (lo ≤ i ∧ i ≤ hi)) : F_is_within [.fz (.int i), .fz (.int lo), .fz (.int hi)] = some (.fz (.bl false), [.fz (.int i), .fz (.int lo), .fz (.int hi)]) := by
  by_cases h1 : lo ≤ i
  · have h2 : ¬ i ≤ hi := fun z => h ⟨h1, z⟩
    simp [F_is_within, fnF, prepP, finP, sNil, sSeq, sIf, sRet, sRetN, sExpr, sSet, sPar, sPar3, sAsg, sSetIx, sFor, gNm, gTp, gsNil, gsCons, eVar, ePk, eMv, eBor, eC, eBin, eNeg, eAndF, eOrF, eNotF, eIf, eChain, eTup, eLst, eNary, eCall, eMeth, eMake, eFld, eSl, oSome, oNone, aNil, aCons, tOf, tAndF, tOrF, tNotF, cont, conts, tmpOf, valOf, valsOf, toVl, Vl.sl, putB, iSeq, seqOf, iRange1, iRange2, iZip2, iZip3, iEnum, opAdd, opSub, opMul, opMod, opFdiv, opPow, opEq, opNe, opLt, opLe, opGt, opGe, opCmp, opIs, opIsNot, opIx, opSl, isNon, clLen, clAbs, clInt, clMax, clMin, clMax2, clMin2, clSum, clSum2, clAll, clAny, clTuple, clList, clIsi, isTy, isAny, tyP, subTy, eAppend, eExtend, L2.atI, L2.ixN, datN_i, datN_n, datN_b, datN_l, datN_t, datNs_Ints, datNs_nil, eqP_ii, eqP_ll, eqP_tt, eqP_nn, eqP_bb, eqPs_Ints, eqPs_nn, eqPs_nc, eqPs_cn, lineN, S_is_integer, h1, h2]
  · simp [F_is_within, fnF, prepP, finP, sNil, sSeq, sIf, sRet, sRetN, sExpr, sSet, sPar, sPar3, sAsg, sSetIx, sFor, gNm, gTp, gsNil, gsCons, eVar, ePk, eMv, eBor, eC, eBin, eNeg, eAndF, eOrF, eNotF, eIf, eChain, eTup, eLst, eNary, eCall, eMeth, eMake, eFld, eSl, oSome, oNone, aNil, aCons, tOf, tAndF, tOrF, tNotF, cont, conts, tmpOf, valOf, valsOf, toVl, Vl.sl, putB, iSeq, seqOf, iRange1, iRange2, iZip2, iZip3, iEnum, opAdd, opSub, opMul, opMod, opFdiv, opPow, opEq, opNe, opLt, opLe, opGt, opGe, opCmp, opIs, opIsNot, opIx, opSl, isNon, clLen, clAbs, clInt, clMax, clMin, clMax2, clMin2, clSum, clSum2, clAll, clAny, clTuple, clList, clIsi, isTy, isAny, tyP, subTy, eAppend, eExtend, L2.atI, L2.ixN, datN_i, datN_n, datN_b, datN_l, datN_t, datNs_Ints, datNs_nil, eqP_ii, eqP_ll, eqP_tt, eqP_nn, eqP_bb, eqPs_Ints, eqPs_nn, eqPs_nc, eqPs_cn, lineN, S_is_integer, h1]
theorem S_within_odd {p : PV} {lo hi : Int} (h : odd p) : F_is_within [.fz p, .fz (.int lo), .fz (.int hi)] = some (.fz (.bl false), [.fz p, .fz (.int lo), .fz (.int hi)]) := by
  have e : F_is_integer [.fz p] = some (.fz (.bl false), [.fz p]) := by
    rcases h with rfl | ⟨b, rfl⟩ | ⟨x, rfl⟩ <;> simp [F_is_integer, fnF, prepP, finP, sNil, sSeq, sIf, sRet, sRetN, sExpr, sSet, sPar, sPar3, sAsg, sSetIx, sFor, gNm, gTp, gsNil, gsCons, eVar, ePk, eMv, eBor, eC, eBin, eNeg, eAndF, eOrF, eNotF, eIf, eChain, eTup, eLst, eNary, eCall, eMeth, eMake, eFld, eSl, oSome, oNone, aNil, aCons, tOf, tAndF, tOrF, tNotF, cont, conts, tmpOf, valOf, valsOf, toVl, Vl.sl, putB, iSeq, seqOf, iRange1, iRange2, iZip2, iZip3, iEnum, opAdd, opSub, opMul, opMod, opFdiv, opPow, opEq, opNe, opLt, opLe, opGt, opGe, opCmp, opIs, opIsNot, opIx, opSl, isNon, clLen, clAbs, clInt, clMax, clMin, clMax2, clMin2, clSum, clSum2, clAll, clAny, clTuple, clList, clIsi, isTy, isAny, tyP, subTy, eAppend, eExtend, datN_i, datN_n, datN_b, datN_l, datN_t, datNs_Ints, datNs_nil, eqP_ii, eqP_ll, eqP_tt, eqP_nn, eqP_bb, eqPs_Ints, eqPs_nn, eqPs_nc, eqPs_cn, lineN]
  simp [F_is_within, fnF, prepP, finP, sNil, sSeq, sIf, sRet, sRetN, sExpr, sSet, sPar, sPar3, sAsg, sSetIx, sFor, gNm, gTp, gsNil, gsCons, eVar, ePk, eMv, eBor, eC, eBin, eNeg, eAndF, eOrF, eNotF, eIf, eChain, eTup, eLst, eNary, eCall, eMeth, eMake, eFld, eSl, oSome, oNone, aNil, aCons, tOf, tAndF, tOrF, tNotF, cont, conts, tmpOf, valOf, valsOf, toVl, Vl.sl, putB, iSeq, seqOf, iRange1, iRange2, iZip2, iZip3, iEnum, opAdd, opSub, opMul, opMod, opFdiv, opPow, opEq, opNe, opLt, opLe, opGt, opGe, opCmp, opIs, opIsNot, opIx, opSl, isNon, clLen, clAbs, clInt, clMax, clMin, clMax2, clMin2, clSum, clSum2, clAll, clAny, clTuple, clList, clIsi, isTy, isAny, tyP, subTy, eAppend, eExtend, L2.atI, L2.ixN, datN_i, datN_n, datN_b, datN_l, datN_t, datNs_Ints, datNs_nil, eqP_ii, eqP_ll, eqP_tt, eqP_nn, eqP_bb, eqPs_Ints, eqPs_nn, eqPs_nc, eqPs_cn, lineN, e]
theorem T_isr {cs ss : List Int} {a : Nat} (x3 : Sl) (h : Ln cs ss) (ha : a < cs.length) : F_is_reason_l1 [.fz (.lst (Ints cs)), .fz (.lst (Ints ss)), .fz (.int a), x3, .un, .un] = some (.own (Ints (sms cs ss a)), [.fz (.lst (Ints cs)), .fz (.lst (Ints ss)), .fz (.int a), x3, .un, .un]) := by
  have hn := h.l2
  have e : Ints (sms cs ss a) = (rangeP 0 (a + 1)).map fun p => .int (sm cs ss a (jOf p)) := by
    rw [rangeP_map]
    unfold Ints sms
    rw [List.map_map]
    rfl
  rw [e]
  refine eLc_map (items := rangeP 0 (a + 1)) (rs := []) (fun p => .int (sm cs ss a (jOf p))) (stRange1 (i := (a : Int) + 1) (by simp [fnF, prepP, finP, sNil, sSeq, sIf, sRet, sRetN, sExpr, sSet, sPar, sPar3, sAsg, sSetIx, sFor, gNm, gTp, gsNil, gsCons, eVar, ePk, eMv, eBor, eC, eBin, eNeg, eAndF, eOrF, eNotF, eIf, eChain, eTup, eLst, eNary, eCall, eMeth, eMake, eFld, eSl, oSome, oNone, aNil, aCons, tOf, tAndF, tOrF, tNotF, cont, conts, tmpOf, valOf, valsOf, toVl, Vl.sl, putB, iSeq, seqOf, iRange1, iRange2, iZip2, iZip3, iEnum, opAdd, opSub, opMul, opMod, opFdiv, opPow, opEq, opNe, opLt, opLe, opGt, opGe, opCmp, opIs, opIsNot, opIx, opSl, isNon, clLen, clAbs, clInt, clMax, clMin, clMax2, clMin2, clSum, clSum2, clAll, clAny, clTuple, clList, clIsi, isTy, isAny, tyP, subTy, eAppend, eExtend, datN_i, datN_n, datN_b, datN_l, datN_t, datNs_Ints, datNs_nil, eqP_ii, eqP_ll, eqP_tt, eqP_nn, eqP_bb, eqPs_Ints, eqPs_nn, eqPs_nc, eqPs_cn, lineN]) (by simp) (by omega)) (by simp [fnF, prepP, finP, sNil, sSeq, sIf, sRet, sRetN, sExpr, sSet, sPar, sPar3, sAsg, sSetIx, sFor, gNm, gTp, gsNil, gsCons, eVar, ePk, eMv, eBor, eC, eBin, eNeg, eAndF, eOrF, eNotF, eIf, eChain, eTup, eLst, eNary, eCall, eMeth, eMake, eFld, eSl, oSome, oNone, aNil, aCons, tOf, tAndF, tOrF, tNotF, cont, conts, tmpOf, valOf, valsOf, toVl, Vl.sl, putB, iSeq, seqOf, iRange1, iRange2, iZip2, iZip3, iEnum, opAdd, opSub, opMul, opMod, opFdiv, opPow, opEq, opNe, opLt, opLe, opGt, opGe, opCmp, opIs, opIsNot, opIx, opSl, isNon, clLen, clAbs, clInt, clMax, clMin, clMax2, clMin2, clSum, clSum2, clAll, clAny, clTuple, clList, clIsi, isTy, isAny, tyP, subTy, eAppend, eExtend, datN_i, datN_n, datN_b, datN_l, datN_t, datNs_Ints, datNs_nil, eqP_ii, eqP_ll, eqP_tt, eqP_nn, eqP_bb, eqPs_Ints, eqPs_nn, eqPs_nc, eqPs_cn, lineN]) (by decide) (by simp) fun z hz => ?_
  · obtain ⟨f, hf, rfl⟩ := rangeP_mem hz
    have k1 := atI_Ints (xs := cs) (f := f) (by omega)
    have k2 : cutP (Ints ss) (some (f : Int)) (some ((a : Int) + 1)) = Ints ((ss.drop f).take (a + 1 - f)) := by rw [cutP_Ints, cut_fa (by omega) (by rw [h.ls]; exact ha)]
    have k3 : jOf (.int (f : Nat)) = f := rfl
    have k4 : sm cs ss a f = cs.getD f 0 + ((ss.drop f).take (a + 1 - f)).sum := rfl
    refine ⟨[.fz (.int f)], .fz (.int (sm cs ss a f)), [.fz (.int f)], ?_⟩
    rw [k3, k4]
    have k5 : intsOf (cutP (Ints ss) (some (f : Int)) (some ((a : Int) + 1))) = some ((ss.drop f).take (a + 1 - f)) := by rw [k2, intsOf_Ints]
    refine ⟨rfl, rfl, rfl, ?_, rfl⟩
    show eBin _ _ _ [.fz (.lst (Ints cs)), .fz (.lst (Ints ss)), .fz (.int a), x3, .un, .fz (.int f)] = some (_, [.fz (.lst (Ints cs)), .fz (.lst (Ints ss)), .fz (.int a), x3, .un, .fz (.int f)])
    (apply Eq.trans; apply PL.stBin; apply Eq.trans; apply PL.stBin; apply Eq.trans; apply PL.stPk; rfl; rfl; apply Eq.trans; apply PL.stPk; rfl; rfl; rfl; rfl; apply Eq.trans; apply PL.opIx_l; exact k1; rfl; rfl; apply Eq.trans; apply PL.stNary; apply Eq.trans; apply PL.stCons; apply Eq.trans; apply PL.stSl; apply Eq.trans; apply PL.stPk; rfl; rfl; apply Eq.trans; apply PL.stoS; apply Eq.trans; apply PL.stPk; rfl; rfl; rfl; apply Eq.trans; apply PL.stoS; apply Eq.trans; apply PL.stBin; apply Eq.trans; apply PL.stPk; rfl; rfl; apply Eq.trans; apply PL.stC; rfl; rfl; rfl; rfl; rfl; rfl; rfl; rfl; rfl; apply Eq.trans; apply PL.stNil; rfl; rfl; rfl; apply Eq.trans; apply PL.clSum2_l; exact k5; rfl; rfl; rfl; rfl; rfl; rfl)
/-- what is_reason tells -/
def isrI (cs ss : List Int) (a : Nat) (i : Int) : Bool := decide (0 ≤ i ∧ i ≤ a) && decide ((sms cs ss a).getD i.toNat 0 = maxL (sms cs ss a))
def isr (cs ss : List Int) (a : Nat) : PV → Bool
  | .int i => isrI cs ss a i
  | _ => false
theorem S_isr {cs ss : List Int} {a : Nat} {p : PV} (h : Ln cs ss) (ha : a < cs.length) (hp : odd p ∨ ∃ i, p = .int i) : F_is_reason [.fz (.lst (Ints cs)), .fz (.lst (Ints ss)), .fz (.int a), .fz p] = some (.fz (.bl (isr cs ss a p)), [.fz (.lst (Ints cs)), .fz (.lst (Ints ss)), .fz (.int a), .fz p]) := by
  rcases hp with hp | ⟨i, rfl⟩
  · have e := S_within_odd (lo := 0) (hi := a) hp
    have e2 : isr cs ss a p = false := by rcases hp with rfl | ⟨b, rfl⟩ | ⟨x, rfl⟩ <;> rfl
    rw [e2]
    unfold F_is_reason
    (apply Eq.trans; apply PL.stFn; apply Eq.trans; apply PL.stSeqO; apply Eq.trans; apply PL.stIfT; apply Eq.trans; apply PL.stNot; apply Eq.trans; apply PL.stOf; apply Eq.trans; apply PL.stCall; apply Eq.trans; apply PL.stCons; apply Eq.trans; apply PL.stVar; rfl; rfl; apply Eq.trans; apply PL.stCons; apply Eq.trans; apply PL.stC; rfl; apply Eq.trans; apply PL.stCons; apply Eq.trans; apply PL.stVar; rfl; rfl; apply Eq.trans; apply PL.stNil; rfl; rfl; rfl; rfl; exact e; rfl; rfl; rfl; exact (PL.not_t rfl); apply Eq.trans; apply PL.stRet; apply Eq.trans; apply PL.stC; rfl; rfl; rfl; rfl; rfl; rfl; rfl)
  · by_cases hi : 0 ≤ i ∧ i ≤ a
    · obtain ⟨f, rfl⟩ : ∃ f : Nat, i = (f : Int) := ⟨i.toNat, by omega⟩
      have e := S_is_within hi.1 hi.2
      have e1 := T_isr (.fz (.int f)) h ha
      have e2 := atI_Ints (xs := sms cs ss a) (f := f) (by rw [sms_len]; omega)
      have e3 : isr cs ss a (.int f) = decide ((sms cs ss a).getD f 0 = maxL (sms cs ss a)) := by
        show isrI cs ss a f = _
        unfold isrI
        rw [decide_eq_true hi, Bool.true_and]; rfl
      have e4 : (sms cs ss a).isEmpty = false := by
        cases hh : sms cs ss a with
        | nil => exact absurd hh (sms_ne _ _ _)
        | cons _ _ => rfl
      rw [e3]
      have e5 : clMax2 [.lst (Ints (sms cs ss a))] = some (.fz (.int (maxL (sms cs ss a)))) := clMax2_l (intsOf_Ints _) (sms_ne _ _ _)
      unfold F_is_reason
      (apply Eq.trans; apply PL.stFn; apply PL.stSeqN; apply Eq.trans; apply PL.stIfN; apply Eq.trans; apply PL.stNot; apply Eq.trans; apply PL.stOf; apply Eq.trans; apply PL.stCall; apply Eq.trans; apply PL.stCons; apply Eq.trans; apply PL.stVar; rfl; rfl; apply Eq.trans; apply PL.stCons; apply Eq.trans; apply PL.stC; rfl; apply Eq.trans; apply PL.stCons; apply Eq.trans; apply PL.stVar; rfl; rfl; apply Eq.trans; apply PL.stNil; rfl; rfl; rfl; rfl; exact e; rfl; rfl; rfl; exact (PL.not_f rfl); apply Eq.trans; apply PL.stNilS; rfl; rfl; apply PL.stSeqN; apply Eq.trans; apply PL.stSet; exact e1; rfl; rfl; apply Eq.trans; apply PL.stRet; apply Eq.trans; apply PL.stBin; apply Eq.trans; apply PL.stBin; apply Eq.trans; apply PL.stPkO; rfl; rfl; apply Eq.trans; apply PL.stPk; rfl; rfl; rfl; rfl; apply Eq.trans; apply PL.opIx_l; exact e2; rfl; rfl; apply Eq.trans; apply PL.stNary; apply Eq.trans; apply PL.stCons; apply Eq.trans; apply PL.stPkO; rfl; rfl; apply Eq.trans; apply PL.stNil; rfl; rfl; rfl; exact e5; rfl; rfl; rfl; apply Eq.trans; apply PL.opEq_ii; rfl; rfl; rfl; rfl; rfl)
    · have e := S_within_no hi
      have e2 : isr cs ss a (.int i) = false := by
        show isrI cs ss a i = _
        unfold isrI
        rw [decide_eq_false hi]; rfl
      rw [e2]
      unfold F_is_reason
      (apply Eq.trans; apply PL.stFn; apply Eq.trans; apply PL.stSeqO; apply Eq.trans; apply PL.stIfT; apply Eq.trans; apply PL.stNot; apply Eq.trans; apply PL.stOf; apply Eq.trans; apply PL.stCall; apply Eq.trans; apply PL.stCons; apply Eq.trans; apply PL.stVar; rfl; rfl; apply Eq.trans; apply PL.stCons; apply Eq.trans; apply PL.stC; rfl; apply Eq.trans; apply PL.stCons; apply Eq.trans; apply PL.stVar; rfl; rfl; apply Eq.trans; apply PL.stNil; rfl; rfl; rfl; rfl; exact e; rfl; rfl; rfl; exact (PL.not_t rfl); apply Eq.trans; apply PL.stRet; apply Eq.trans; apply PL.stC; rfl; rfl; rfl; rfl; rfl; rfl; rfl)
end Wk42
set_option Elab.async false
set_option linter.all false
set_option maxRecDepth 100000
set_option maxHeartbeats 1000000
namespace Wk42
open PySem PL
theorem maxL_cons {x : Int} {xs : List Int} (h : xs ≠ []) : maxL (x :: xs) = max x (maxL xs) := by
  cases xs with
  | nil => exact absurd rfl h
  | cons y ys => rfl
theorem sms_zero (c s : Int) (cs ss : List Int) : sms (c :: cs) (s :: ss) 0 = [c + s] := by
  unfold sms sm
  simp
theorem sms_succ (c s : Int) (cs ss : List Int) (a : Nat) : sms (c :: cs) (s :: ss) (a + 1) = (c + (s + (ss.take (a + 1)).sum)) :: sms cs ss a := by
  unfold sms
  rw [List.range_succ_eq_map, List.map_cons, List.map_map]
  congr 1
  refine List.map_congr_left fun f _ => ?_
  show cs.getD f 0 + ((ss.drop f).take (a + 1 + 1 - (f + 1))).sum = cs.getD f 0 + ((ss.drop f).take (a + 1 - f)).sum
  rw [show a + 1 + 1 - (f + 1) = a + 1 - f by omega]
theorem lvs_sm : ∀ (cs ss : List Int) (l : Option Int) (a : Nat), ss.length = cs.length → a < cs.length → (lvs l cs ss).getD a 0 = (match l with | none => maxL (sms cs ss a) | some t => max (t + (ss.take (a + 1)).sum) (maxL (sms cs ss a)))
  | [], ss, l, a, _, h => by simp at h
  | c :: cs, [], l, a, h, _ => by simp at h
  | c :: cs, s :: ss, l, 0, hl, ha => by
    rw [lvs, sms_zero]
    cases l with
    | none => simp [stp, maxL]
    | some t => simp [stp, maxL]; omega
  | c :: cs, s :: ss, l, a + 1, hl, ha => by
    have ih := lvs_sm cs ss (some (stp l c s)) a (by simpa using hl) (by simpa using ha)
    have e : (lvs l (c :: cs) (s :: ss)).getD (a + 1) 0 = (lvs (some (stp l c s)) cs ss).getD a 0 := by rw [lvs]; rfl
    have e2 : ((s :: ss).take (a + 1 + 1)).sum = s + (ss.take (a + 1)).sum := by rw [List.take_succ_cons, List.sum_cons]
    rw [e, ih, sms_succ, maxL_cons (sms_ne _ _ _), e2]
    cases l with
    | none => simp only [stp]; omega
    | some t => simp only [stp]; omega
theorem lvs_zero {cs ss : List Int} (h : ∀ c ∈ cs, 0 ≤ c) : lvs (some 0) cs ss = lvs none cs ss := by
  match cs, ss with
  | [], _ => simp [lvs]
  | c :: cs, [] => simp [lvs]
  | c :: cs, s :: ss =>
    have := h c List.mem_cons_self
    have e : stp (some 0) c s = stp none c s := by simp only [stp]; omega
    rw [lvs, lvs, e]
theorem lvs_ne {l : Option Int} {cs ss : List Int} (h : cs ≠ []) (hl : ss.length = cs.length) : lvs l cs ss ≠ [] := fun e => by
  have := lvs_len l cs ss hl
  rw [e] at this
  cases cs with
  | nil => exact h rfl
  | cons _ _ => simp at this
/-- the last one leaves behind all have come -/
theorem lvs_last : ∀ (cs ss : List Int) (l : Option Int) (D : Int), ss.length = cs.length → (∀ s ∈ ss, 0 ≤ s) → (lvs l cs ss).getLast? = some D → (∀ c ∈ cs, c ≤ D) ∧ ∀ t, l = some t → t ≤ D
  | [], ss, l, D, _, _, h => by simp [lvs] at h
  | c :: cs, [], l, D, h, _, _ => by simp at h
  | c :: cs, s :: ss, l, D, hl, hs, h => by
    have h0 := hs s List.mem_cons_self
    have hc : c ≤ stp l c s ∧ ∀ t, l = some t → t ≤ stp l c s := by
      cases l with
      | none => exact ⟨by simp only [stp]; omega, fun t e => by cases e⟩
      | some u => exact ⟨by simp only [stp]; omega, fun t e => by cases e; simp only [stp]; omega⟩
    rw [lvs] at h
    by_cases hn : cs = []
    · subst hn
      have e : lvs (some (stp l c s)) [] ss = [] := by simp [lvs]
      rw [e] at h
      simp at h
      subst h
      exact ⟨fun x hx => by simp at hx; subst hx; exact hc.1, hc.2⟩
    · have hn2 := lvs_ne (l := some (stp l c s)) hn (show ss.length = cs.length by simpa using hl)
      have h' : (lvs (some (stp l c s)) cs ss).getLast? = some D := by
        rw [List.getLast?_cons] at h
        cases hk : (lvs (some (stp l c s)) cs ss).getLast? with
        | none => rw [List.getLast?_eq_none_iff] at hk; exact absurd hk hn2
        | some E => rw [hk] at h; simpa using h
      obtain ⟨k1, k2⟩ := lvs_last cs ss (some (stp l c s)) D (by simpa using hl) (fun x hx => hs x (List.mem_cons_of_mem _ hx)) h'
      have k3 := k2 _ rfl
      refine ⟨fun x hx => ?_, fun t e => by have := hc.2 t e; omega⟩
      rcases List.mem_cons.mp hx with rfl | hx
      · omega
      · exact k1 x hx
theorem rm_ge (cs ds : List Int) : ∀ (r : List Int) (b : Int), b ≤ rm cs ds r b ∧ ∀ c ∈ r, (cnt cs ds c : Int) ≤ rm cs ds r b
  | [], b => ⟨by simp [rm], fun c h => by simp at h⟩
  | x :: r, b => by
    obtain ⟨h1, h2⟩ := rm_ge cs ds r (max b (cnt cs ds x))
    rw [rm]
    refine ⟨by omega, fun c hc => ?_⟩
    rcases List.mem_cons.mp hc with rfl | hc
    · omega
    · exact h2 c hc
theorem rm_mem (cs ds : List Int) : ∀ (r : List Int) (b : Int), rm cs ds r b = b ∨ ∃ c ∈ r, rm cs ds r b = (cnt cs ds c : Int)
  | [], b => .inl (by simp [rm])
  | x :: r, b => by
    rw [rm]
    rcases rm_mem cs ds r (max b (cnt cs ds x)) with h | ⟨c, hc, h⟩
    · by_cases hx : b ≤ (cnt cs ds x : Int)
      · exact .inr ⟨x, List.mem_cons_self, by omega⟩
      · exact .inl (by omega)
    · exact .inr ⟨c, List.mem_cons_of_mem _ hc, h⟩
theorem cnt_le {cs ds : List Int} {t : Int} (h : 0 < cnt cs ds t) : ∃ c ∈ cs, cnt cs ds t ≤ cnt cs ds c := by
  have hne : ((cs.zip ds).filter (isHere t)) ≠ [] := fun e => by unfold cnt at h; rw [e] at h; simp at h
  obtain ⟨x, hx⟩ := List.exists_mem_of_ne_nil _ hne
  obtain ⟨hx1, hx2⟩ := List.mem_filter.mp hx
  have hxc : x.1 ∈ cs := (List.of_mem_zip hx1).1
  have hxt : x.1 ≤ t := by
    unfold isHere at hx2
    simp only [Bool.and_eq_true, decide_eq_true_eq] at hx2
    exact hx2.1
  have hne2 : cs.filter (fun c => decide (c ≤ t)) ≠ [] := fun e => by
    have : x.1 ∈ cs.filter (fun c => decide (c ≤ t)) := List.mem_filter.mpr ⟨hxc, decide_eq_true hxt⟩
    rw [e] at this
    simp at this
  have hm := maxL_mem hne2
  obtain ⟨k1, k2⟩ := List.mem_filter.mp hm
  have k3 : maxL (cs.filter (fun c => decide (c ≤ t))) ≤ t := of_decide_eq_true k2
  refine ⟨_, k1, ?_⟩
  unfold cnt
  rw [← List.countP_eq_length_filter, ← List.countP_eq_length_filter]
  refine List.countP_mono_left fun y hy hyt => ?_
  unfold isHere at hyt ⊢
  simp only [Bool.and_eq_true, decide_eq_true_eq] at hyt ⊢
  have hyc : y.1 ∈ cs := (List.of_mem_zip hy).1
  have := maxL_ge (ns := cs.filter fun c => decide (c ≤ t)) (List.mem_filter.mpr ⟨hyc, decide_eq_true hyt.1⟩)
  omega
/-- the greatest number there at any tick is the greatest when someone comes -/
theorem room_eq {cs ds : List Int} {n : Nat} (h : ∀ c ∈ cs, 0 ≤ c ∧ c < n) (hn : 0 < n) : maxL ((List.range n).map fun t : Nat => (cnt cs ds t : Int)) = rm cs ds cs 0 := by
  have hne : (List.range n).map (fun t : Nat => (cnt cs ds t : Int)) ≠ [] := fun e => by
    have := congrArg List.length e
    simp at this
    omega
  obtain ⟨t, ht, e⟩ := List.mem_map.mp (maxL_mem hne)
  have hg := rm_ge cs ds cs 0
  have le1 : maxL ((List.range n).map fun t : Nat => (cnt cs ds t : Int)) ≤ rm cs ds cs 0 := by
    rw [← e]
    by_cases hp : 0 < cnt cs ds t
    · obtain ⟨c, hc, hle⟩ := cnt_le hp
      have := hg.2 c hc
      omega
    · omega
  have le2 : rm cs ds cs 0 ≤ maxL ((List.range n).map fun t : Nat => (cnt cs ds t : Int)) := by
    rcases rm_mem cs ds cs 0 with h0 | ⟨c, hc, h0⟩
    · rw [h0]
      rw [← e]
      omega
    · rw [h0]
      have h1 := h c hc
      refine maxL_ge (List.mem_map.mpr ⟨c.toNat, List.mem_range.mpr (by omega), ?_⟩)
      rw [show ((c.toNat : Nat) : Int) = c by omega]
  omega
/-- nowhere later -/
def le2 : List Int → List Int → Prop
  | [], [] => True
  | a :: as, b :: bs => a ≤ b ∧ le2 as bs
  | _, _ => False
theorem le2_refl : ∀ as : List Int, le2 as as
  | [] => trivial
  | a :: as => ⟨Int.le_refl a, le2_refl as⟩
def gts (a b : List Int) : List Bool := List.zipWith (fun a b => decide (b < a)) a b
theorem lvs_mono : ∀ (cs cs' ss ss' : List Int) (l l' : Option Int), le2 cs' cs → le2 ss' ss → l'.isSome = l.isSome → (∀ t t', l = some t → l' = some t' → t' ≤ t) → (gts (lvs l' cs' ss') (lvs l cs ss)).any id = false
  | [], [], ss, ss', l, l', _, _, _, _ => by simp [lvs, gts]
  | [], _ :: _, ss, ss', l, l', h, _, _, _ => h.elim
  | _ :: _, [], ss, ss', l, l', h, _, _, _ => h.elim
  | c :: cs, c' :: cs', [], [], l, l', _, _, _, _ => by simp [lvs, gts]
  | c :: cs, c' :: cs', [], _ :: _, l, l', _, h, _, _ => h.elim
  | c :: cs, c' :: cs', _ :: _, [], l, l', _, h, _, _ => h.elim
  | c :: cs, c' :: cs', s :: ss, s' :: ss', l, l', ⟨h1, h2⟩, ⟨k1, k2⟩, e1, e2 => by
    have hs : stp l' c' s' ≤ stp l c s := by
      cases l with
      | none => cases l' with
        | none => simp only [stp]; omega
        | some _ => cases e1
      | some t => cases l' with
        | none => cases e1
        | some t' =>
          have := e2 t t' rfl rfl
          simp only [stp]; omega
    have ih := lvs_mono cs cs' ss ss' (some (stp l c s)) (some (stp l' c' s')) h2 k2 rfl (fun t t' a b => by cases a; cases b; exact hs)
    rw [lvs, lvs]
    unfold gts at ih ⊢
    rw [List.zipWith_cons_cons, List.any_cons, ih]
    have : ¬ stp l c s < stp l' c' s' := by omega
    simp [this]
def shorter (ss : List Int) (p : Nat) : List Int := ss.take p ++ [ss.getD p 0 - 1] ++ ss.drop (p + 1)
theorem le2_shorter : ∀ (ss : List Int) (p : Nat), p < ss.length → le2 (shorter ss p) ss
  | [], p, h => by simp at h
  | s :: ss, 0, _ => ⟨by show s - 1 ≤ s; omega, by simpa using le2_refl ss⟩
  | s :: ss, p + 1, h => by
    have := le2_shorter ss p (by simpa using h)
    exact ⟨Int.le_refl s, this⟩
theorem shorter_mem {ss : List Int} {p : Nat} (h : p < ss.length) {x : Int} (hx : x ∈ shorter ss p) : x ∈ ss ∨ ∃ y ∈ ss, x = y - 1 := by
  unfold shorter at hx
  rcases List.mem_append.mp hx with hx | hx
  · rcases List.mem_append.mp hx with hx | hx
    · exact .inl (List.mem_of_mem_take hx)
    · refine .inr ⟨ss[p], List.getElem_mem h, ?_⟩
      rw [List.getD_eq_getElem?_getD, List.getElem?_eq_getElem h] at hx
      simpa using hx
  · exact .inl (List.mem_of_mem_drop hx)
theorem shorter_len {ss : List Int} {p : Nat} (h : p < ss.length) : (shorter ss p).length = ss.length := by
  unfold shorter
  simp only [List.length_append, List.length_take, List.length_drop, List.length_singleton]
  omega
def sooner (cs : List Int) : List Int := cs.map fun c => max 0 (c - 1)
theorem le2_sooner : ∀ {cs : List Int}, (∀ c ∈ cs, 0 ≤ c) → le2 (sooner cs) cs
  | [], _ => trivial
  | c :: cs, h => ⟨by have := h c List.mem_cons_self; show max 0 (c - 1) ≤ c; omega, le2_sooner fun x hx => h x (List.mem_cons_of_mem _ hx)⟩
theorem inc_sooner : ∀ {cs : List Int}, inc cs = true → inc (sooner cs) = true
  | [], _ => rfl
  | [a], _ => rfl
  | a :: b :: r, h => by
    unfold inc at h
    simp only [Bool.and_eq_true, decide_eq_true_eq] at h
    have := inc_sooner h.2
    show inc (max 0 (a - 1) :: max 0 (b - 1) :: r.map fun c => max 0 (c - 1)) = true
    unfold inc
    simp only [Bool.and_eq_true, decide_eq_true_eq]
    exact ⟨by omega, this⟩
end Wk42
set_option Elab.async false
set_option linter.all false
set_option maxRecDepth 100000
set_option maxHeartbeats 1000000
namespace Wk42
open PySem PL
theorem lt_line {n : Nat} (h : n ≤ 1000) : n < lineN := by unfold lineN; omega
theorem draw_l {s : Sl} {ρ : List Sl} {lim : Int} (h : Hd s) (g : ρ[1]? = some s) (hl : 0 < lim ∧ lim < 2 ^ 64) : ∃ r s', eCall F__law_draw (aCons (eBor 1) (aCons (eC (.int lim)) aNil)) ρ = some (.fz (.int r), ρ.set 1 s') ∧ 0 ≤ r ∧ r < lim ∧ Hd s' := by
  rw [draw_is]
  exact call_draw h g hl
section
variable {x0 x1 x2 x3 x4 x5 x6 x7 x8 x9 x10 x11 x12 x13 x14 x15 x16 x17 x18 x19 x20 x21 x22 x23 : Sl}
theorem U1 {s : Sl} (h : Hd s) : ∃ (m : Nat) (s' : Sl), (sSet 3 (eBin opAdd (eC (.int 1)) (eCall F__law_draw (aCons (eBor 1) (aCons (eC (.int 7)) aNil))))) [x0, s, x2, x3, x4, x5, x6, x7, x8, x9, x10, x11, x12, x13, x14, x15, x16, x17, x18, x19, x20, x21, x22, x23] = some (.nx, [x0, s', x2, .fz (.int m), x4, x5, x6, x7, x8, x9, x10, x11, x12, x13, x14, x15, x16, x17, x18, x19, x20, x21, x22, x23]) ∧ Hd s' ∧ 1 ≤ m ∧ m ≤ 7 := by
  obtain ⟨r, s', d, a, b, h'⟩ := draw_l (ρ := [x0, s, x2, x3, x4, x5, x6, x7, x8, x9, x10, x11, x12, x13, x14, x15, x16, x17, x18, x19, x20, x21, x22, x23]) (lim := 7) h rfl (by omega)
  refine ⟨(1 + r).toNat, s', ?_, h', by omega, by omega⟩
  rw [show (((1 + r).toNat : Nat) : Int) = 1 + r by omega]
  (apply Eq.trans; apply PL.stSet; apply Eq.trans; apply PL.stBin; apply Eq.trans; apply PL.stC; rfl; exact d; rfl; rfl; rfl; rfl; rfl; rfl)
theorem U3 {s : Sl} {m : Nat} (h : Hd s) (hm : m ≤ 7) : ∃ cs t s' y6, F_law_f1 [x0, s, x2, .fz (.int m), .own [], .fz (.int 0), x6, x7, x8, x9, x10, x11, x12, x13, x14, x15, x16, x17, x18, x19, x20, x21, x22, x23] = some (.nx, [x0, s', x2, .fz (.int m), .own (Ints cs), .fz (.int t), y6, x7, x8, x9, x10, x11, x12, x13, x14, x15, x16, x17, x18, x19, x20, x21, x22, x23]) ∧ Hd s' ∧ cs.length = m ∧ inc cs = true ∧ ∀ c ∈ cs, 0 ≤ c ∧ c ≤ 5 * m := by
  obtain ⟨ρ', e, s', cs, t, y6, hρ, h1, h2, h3, h4, h5, h6⟩ := forP_ex (g := gNm 6) (body := F_law_b1) (I := fun ρ k => ∃ s cs t y6, ρ = [x0, s, x2, .fz (.int m), .own (Ints cs), .fz (.int t), y6, x7, x8, x9, x10, x11, x12, x13, x14, x15, x16, x17, x18, x19, x20, x21, x22, x23] ∧ Hd s ∧ cs.length = k ∧ inc cs = true ∧ (∀ c ∈ cs, 0 ≤ c ∧ c ≤ t) ∧ 0 ≤ t ∧ t ≤ 5 * k) (rangeP 0 m) 0 [x0, s, x2, .fz (.int m), .own [], .fz (.int 0), x6, x7, x8, x9, x10, x11, x12, x13, x14, x15, x16, x17, x18, x19, x20, x21, x22, x23]
    ⟨s, [], 0, _, rfl, h, rfl, rfl, fun c hc => by simp at hc, by omega, by omega⟩ fun j p ρ hj ⟨s, cs, t, y6, hρ, h1, h2, h3, h4, h5, h6⟩ => by
      subst hρ
      obtain ⟨hk, rfl⟩ := rangeP_get hj
      obtain ⟨r, s', ed, hr1, hr2, hs'⟩ := draw_l (ρ := [x0, s, x2, .fz (.int m), .own (Ints cs), .fz (.int t), .fz (.int (j : Nat)), x7, x8, x9, x10, x11, x12, x13, x14, x15, x16, x17, x18, x19, x20, x21, x22, x23]) (lim := 5) h1 rfl (by omega)
      refine ⟨_, [x0, s', x2, .fz (.int m), .own (Ints (cs ++ [t + r])), .fz (.int (t + r)), .fz (.int (j : Nat)), x7, x8, x9, x10, x11, x12, x13, x14, x15, x16, x17, x18, x19, x20, x21, x22, x23], rfl, .inl ?_, s', cs ++ [t + r], t + r, _, rfl, hs', by rw [List.length_append, List.length_singleton, h2], inc_snoc h3 fun c hc => by have := (h4 c hc).2; omega, fun c hc => ?_, by omega, by omega⟩
      · have hb : (Ints cs).length < lineN := lt_line (by rw [Ints_len]; omega)
        rw [← Ints_snoc]
        unfold F_law_b1
        (apply PL.stSeqN; apply Eq.trans; apply PL.stSet; apply Eq.trans; apply PL.stBin; apply Eq.trans; apply PL.stPk; rfl; rfl; exact ed; rfl; rfl; rfl; rfl; rfl; rfl; apply Eq.trans; apply PL.stExpr; apply Eq.trans; apply PL.stAppend; rfl; apply Eq.trans; apply PL.stVar; rfl; rfl; rfl; rfl; (first | assumption | decide | omega | simp [PL.lineN]); rfl; rfl)
      · rcases List.mem_append.mp hc with hc | hc
        · have := h4 c hc; omega
        · simp at hc; omega
  subst hρ
  rw [rangeP_len, Nat.zero_add] at h2 h6
  refine ⟨cs, t, s', y6, ?_, h1, h2, h3, fun c hc => by have := h4 c hc; omega⟩
  unfold F_law_f1
  (apply Eq.trans; apply PL.stFor; apply Eq.trans; apply PL.stRange1; apply Eq.trans; apply PL.stPk; rfl; rfl; exact (show _ = (((m) : Nat) : Int) from by first | rfl | omega); (first | assumption | omega); rfl; exact e; rfl)
theorem T_l1 {s : Sl} {m : Nat} (h : Hd s) (hm : m ≤ 7) : ∃ ss s', F_law_l1 [x0, s, x2, .fz (.int m), x4, x5, x6, x7, x8, x9, x10, x11, x12, x13, x14, x15, x16, x17, x18, x19, x20, x21, x22, x23] = some (.own (Ints ss), [x0, s', x2, .fz (.int m), x4, x5, x6, x7, x8, x9, x10, x11, x12, x13, x14, x15, x16, x17, x18, x19, x20, x21, x22, x23]) ∧ Hd s' ∧ ss.length = m ∧ ∀ x ∈ ss, 1 ≤ x ∧ x ≤ 4 := by
  obtain ⟨qs, ρ', e, ⟨s', y6, hρ, hs'⟩, hl, hq⟩ := eLc_ex (vs := [6]) (w := iRange1 (ePk 3)) (g := gNm 6) (fe := eBin opAdd (eC (.int 1)) (eCall F__law_draw (aCons (eBor 1) (aCons (eC (.int 4)) aNil)))) (items := rangeP 0 m) (rs := []) (ρ := [x0, s, x2, .fz (.int m), x4, x5, x6, x7, x8, x9, x10, x11, x12, x13, x14, x15, x16, x17, x18, x19, x20, x21, x22, x23]) (ρ0 := [x0, s, x2, .fz (.int m), x4, x5, x6, x7, x8, x9, x10, x11, x12, x13, x14, x15, x16, x17, x18, x19, x20, x21, x22, x23])
    (I := fun ρ => ∃ s y6, ρ = [x0, s, x2, .fz (.int m), x4, x5, y6, x7, x8, x9, x10, x11, x12, x13, x14, x15, x16, x17, x18, x19, x20, x21, x22, x23] ∧ Hd s) (P := fun _ q => ∃ x : Int, q = .int x ∧ 1 ≤ x ∧ x ≤ 4)
    (by (apply Eq.trans; apply PL.stRange1; apply Eq.trans; apply PL.stPk; rfl; rfl; exact (show _ = (((m) : Nat) : Int) from by first | rfl | omega); (first | assumption | omega); rfl)) ⟨s, x6, rfl, h⟩ fun p hp ρ ⟨s, y6, hρ, hs⟩ => by
      subst hρ
      obtain ⟨k, hk, rfl⟩ := rangeP_mem hp
      obtain ⟨r, s', ed, hr1, hr2, hs'⟩ := draw_l (ρ := [x0, s, x2, .fz (.int m), x4, x5, .fz (.int k), x7, x8, x9, x10, x11, x12, x13, x14, x15, x16, x17, x18, x19, x20, x21, x22, x23]) (lim := 4) hs rfl (by omega)
      exact ⟨[x0, s, x2, .fz (.int m), x4, x5, .fz (.int k), x7, x8, x9, x10, x11, x12, x13, x14, x15, x16, x17, x18, x19, x20, x21, x22, x23], [x0, s', x2, .fz (.int m), x4, x5, .fz (.int k), x7, x8, x9, x10, x11, x12, x13, x14, x15, x16, x17, x18, x19, x20, x21, x22, x23], .fz (.int (1 + r)), .int (1 + r), by simp [gNm, wipeS], by (apply Eq.trans; apply PL.stBin; apply Eq.trans; apply PL.stC; rfl; exact ed; rfl; rfl; rfl; rfl), rfl, ⟨1 + r, rfl, by omega, by omega⟩, s', _, rfl, hs'⟩
  subst hρ
  rw [rangeP_len] at hl
  obtain ⟨r, hr, hr2⟩ := ex_list (f := PV.int) (P := fun x => 1 ≤ x ∧ x ≤ 4) (fun q hq' => by
    obtain ⟨o, ho⟩ := mem_of (R := fun q => ∃ x : Int, q = .int x ∧ 1 ≤ x ∧ x ≤ 4) (by rw [rangeP_len]; exact hl) hq (fun p q h => h) q hq'
    exact ⟨o, ho⟩)
  subst hr
  rw [List.length_map] at hl
  refine ⟨r, s', ?_, hs', hl, hr2⟩
  unfold F_law_l1
  rw [e]
  simp [putB, backS, keepS, Ints]
theorem L_due (cs0 ss0 : Sl) : ∀ (cs ss ds : List Int) (t : Int) (y10 y11 : Sl), ds.length + cs.length ≤ 1000 → ∃ t' z10 z11, forP (gTp (gsCons (gNm 10) (gsCons (gNm 11) gsNil))) F_law_b2 (zipP (Ints cs) (Ints ss)) [x0, x1, x2, x3, cs0, x5, x6, ss0, .own (Ints ds), .fz (.int t), y10, y11, x12, x13, x14, x15, x16, x17, x18, x19, x20, x21, x22, x23] = some (.nx, [x0, x1, x2, x3, cs0, x5, x6, ss0, .own (Ints (ds ++ lvs (some t) cs ss)), .fz (.int t'), z10, z11, x12, x13, x14, x15, x16, x17, x18, x19, x20, x21, x22, x23])
  | [], ss, ds, t, y10, y11, _ => ⟨t, y10, y11, by simp [Ints_nil, zipP, forP, lvs]⟩
  | c :: cs, [], ds, t, y10, y11, _ => ⟨t, y10, y11, by simp [Ints_nil, Ints_cons, zipP, forP, lvs]⟩
  | c :: cs, s :: ss, ds, t, y10, y11, hl => by
    rw [List.length_cons] at hl
    obtain ⟨t', z10, z11, e⟩ := L_due cs0 ss0 cs ss (ds ++ [stp (some t) c s]) (stp (some t) c s) (.fz (.int c)) (.fz (.int s)) (by simp; omega)
    refine ⟨t', z10, z11, ?_⟩
    rw [Ints_cons, Ints_cons, zipP, forP, lvs]
    rw [List.append_assoc, List.singleton_append] at e
    have hb : (Ints ds).length < lineN := lt_line (by rw [Ints_len]; omega)
    have h1 : max t c = max c t := by omega
    have e1 : F_law_b2 [x0, x1, x2, x3, cs0, x5, x6, ss0, .own (Ints ds), .fz (.int t), .fz (.int c), .fz (.int s), x12, x13, x14, x15, x16, x17, x18, x19, x20, x21, x22, x23] = some (.nx, [x0, x1, x2, x3, cs0, x5, x6, ss0, .own (Ints (ds ++ [stp (some t) c s])), .fz (.int (stp (some t) c s)), .fz (.int c), .fz (.int s), x12, x13, x14, x15, x16, x17, x18, x19, x20, x21, x22, x23]) := by
      rw [← Ints_snoc]
      have hm : clMax2 [.int t, .int c] = some (.fz (.int (max c t))) := by rw [← h1]; rfl
      unfold F_law_b2
      (apply PL.stSeqN; apply Eq.trans; apply PL.stSet; apply Eq.trans; apply PL.stBin; apply Eq.trans; apply PL.stNary; apply Eq.trans; apply PL.stCons; apply Eq.trans; apply PL.stPk; rfl; rfl; apply Eq.trans; apply PL.stCons; apply Eq.trans; apply PL.stPk; rfl; rfl; apply Eq.trans; apply PL.stNil; rfl; rfl; rfl; rfl; exact hm; rfl; apply Eq.trans; apply PL.stPk; rfl; rfl; rfl; rfl; rfl; rfl; rfl; rfl; apply Eq.trans; apply PL.stExpr; apply Eq.trans; apply PL.stAppend; rfl; apply Eq.trans; apply PL.stVar; rfl; rfl; rfl; rfl; (first | assumption | decide | omega | simp [PL.lineN]); rfl; rfl)
    show (gTp _ _ _).bind _ = _
    have e2 : gTp (gsCons (gNm 10) (gsCons (gNm 11) gsNil)) (.tup [.int c, .int s]) [x0, x1, x2, x3, cs0, x5, x6, ss0, .own (Ints ds), .fz (.int t), y10, y11, x12, x13, x14, x15, x16, x17, x18, x19, x20, x21, x22, x23] = some [x0, x1, x2, x3, cs0, x5, x6, ss0, .own (Ints ds), .fz (.int t), .fz (.int c), .fz (.int s), x12, x13, x14, x15, x16, x17, x18, x19, x20, x21, x22, x23] := rfl
    rw [e2, Option.bind_some, e1, Option.bind_some]
    exact e
theorem U6 {cs ss : List Int} (hc : ∀ c ∈ cs, 0 ≤ c) (hl : cs.length ≤ 100) : ∃ y9 y10 y11, F_law_f2 [x0, x1, x2, x3, .own (Ints cs), x5, x6, .own (Ints ss), .own [], .fz (.int 0), x10, x11, x12, x13, x14, x15, x16, x17, x18, x19, x20, x21, x22, x23] = some (.nx, [x0, x1, x2, x3, .fz (.lst (Ints cs)), x5, x6, .fz (.lst (Ints ss)), .own (Ints (lvs none cs ss)), y9, y10, y11, x12, x13, x14, x15, x16, x17, x18, x19, x20, x21, x22, x23]) := by
  obtain ⟨t', z10, z11, e⟩ := L_due (x0 := x0) (x1 := x1) (x2 := x2) (x3 := x3) (x5 := x5) (x6 := x6) (x12 := x12) (x13 := x13) (x14 := x14) (x15 := x15) (x16 := x16) (x17 := x17) (x18 := x18) (x19 := x19) (x20 := x20) (x21 := x21) (x22 := x22) (x23 := x23) (.fz (.lst (Ints cs))) (.fz (.lst (Ints ss))) cs ss [] 0 x10 x11 (by simp; omega)
  rw [List.nil_append, lvs_zero hc, Ints_nil] at e
  refine ⟨.fz (.int t'), z10, z11, ?_⟩
  unfold F_law_f2
  (apply Eq.trans; apply PL.stFor; apply Eq.trans; apply PL.stZip2; apply Eq.trans; apply PL.stCons; apply Eq.trans; apply PL.stVarO; rfl; rfl; apply Eq.trans; apply PL.stCons; apply Eq.trans; apply PL.stVarO; rfl; rfl; apply Eq.trans; apply PL.stNil; rfl; rfl; rfl; rfl; rfl; rfl; exact e; rfl)
end
end Wk42
set_option Elab.async false
set_option linter.all false
set_option maxRecDepth 100000
set_option maxHeartbeats 1000000
namespace Wk42
open PySem PL
theorem datNs_pPs (n : Nat) : ∀ ps : List (Int × Int), datNs (n + 1) (pPs ps) = true
  | [] => datNs_nil _
  | x :: ps => by
    have ih := datNs_pPs n ps
    rw [pPs_cons]
    unfold datNs
    rw [ih, datN_t]
    unfold datNs
    rw [datN_i]
    unfold datNs
    rw [datN_i, datNs_nil]; rfl
theorem datN_frac (n : Nat) (t : Int) (b : Nat) : datN (n + 1) (frac t b) = true := by
  unfold frac
  rw [datN_t]
  unfold datNs
  rw [datN_i]
  unfold datNs
  rw [datN_i, datNs_nil]; rfl
theorem is_l1o {n : Nat} {xs : List PV} (ih : ∀ x ∈ xs, F__law_is_r n [.fz x, .fz x] = some (.fz (.bl true), [.fz x, .fz x])) : F__law_is_l1 (F__law_is_r n) [.own xs, .fz (.lst xs), .un, .un] = some (.own ((zipP xs xs).map fun _ => .bl true), [.fz (.lst xs), .fz (.lst xs), .un, .un]) := by
  refine eLc_map (items := zipP xs xs) (rs := [.fz (.lst xs), .fz (.lst xs)]) (fun _ => .bl true) (by (apply Eq.trans; apply PL.stZip2; apply Eq.trans; apply PL.stCons; apply Eq.trans; apply PL.stVarO; rfl; rfl; apply Eq.trans; apply PL.stCons; apply Eq.trans; apply PL.stVar; rfl; rfl; apply Eq.trans; apply PL.stNil; rfl; rfl; rfl; rfl; rfl; rfl)) (by rfl) (by decide) (by simp) fun z hz => ?_
  obtain ⟨x, hx, rfl⟩ := zip_self hz
  have e := ih x hx
  refine ⟨[.fz x, .fz x], .fz (.bl true), [.fz x, .fz x], rfl, rfl, rfl, ?_, rfl⟩
  show eCall _ _ [.fz (.lst xs), .fz (.lst xs), .fz x, .fz x] = some (_, [.fz (.lst xs), .fz (.lst xs), .fz x, .fz x])
  (apply Eq.trans; apply PL.stCall; apply Eq.trans; apply PL.stCons; apply Eq.trans; apply PL.stVar; rfl; rfl; apply Eq.trans; apply PL.stCons; apply Eq.trans; apply PL.stVar; rfl; rfl; apply Eq.trans; apply PL.stNil; rfl; rfl; rfl; exact e; rfl)
/-- the same list, one's own first -/
theorem S_is_own {xs : List PV} (h : datNs 6 xs = true) : F__law_is [.own xs, .fz (.lst xs)] = some (.fz (.bl true), [.fz (.lst xs), .fz (.lst xs)]) := by
  have hd : ∀ x ∈ xs, datN 6 x = true := fun x hx => by
    have key : ∀ (ys : List PV), datNs 6 ys = true → ∀ y ∈ ys, datN 6 y = true := by
      intro ys
      induction ys with
      | nil => intro _ y hy; simp at hy
      | cons z zs ih =>
        intro hz y hy
        unfold datNs at hz
        rw [Bool.and_eq_true] at hz
        rcases List.mem_cons.mp hy with rfl | hy
        · exact hz.1
        · exact ih hz.2 y hy
    exact key xs h x hx
  have e := is_l1o (n := 7) (xs := xs) fun x hx => S_is_r 6 x (hd x hx)
  have e2 := blsOf_true (zipP xs xs)
  have e3 := all_true (zipP xs xs)
  have g : ∀ f : FP, F__law_is_l1 f [.own xs, .fz (.lst xs), .un, .un] = some (.own ((zipP xs xs).map fun _ => .bl true), [.fz (.lst xs), .fz (.lst xs), .un, .un]) → F__law_is_s f [.own xs, .fz (.lst xs)] = some (.fz (.bl true), [.fz (.lst xs), .fz (.lst xs)]) := fun f ef => by
    simp [F__law_is_s, fnF, prepP, finP, sNil, sSeq, sIf, sRet, sRetN, sExpr, sSet, sPar, sPar3, sAsg, sSetIx, sFor, gNm, gTp, gsNil, gsCons, eVar, ePk, eMv, eBor, eC, eBin, eNeg, eAndF, eOrF, eNotF, eIf, eChain, eTup, eLst, eNary, eCall, eMeth, eMake, eFld, eSl, oSome, oNone, aNil, aCons, tOf, tAndF, tOrF, tNotF, cont, conts, tmpOf, valOf, valsOf, toVl, Vl.sl, putB, iSeq, seqOf, iRange1, iRange2, iZip2, iZip3, iEnum, opAdd, opSub, opMul, opMod, opFdiv, opPow, opEq, opNe, opLt, opLe, opGt, opGe, opCmp, opIs, opIsNot, opIx, opSl, isNon, clLen, clAbs, clInt, clMax, clMin, clMax2, clMin2, clSum, clSum2, clAll, clAny, clTuple, clList, clIsi, isTy, isAny, tyP, subTy, eAppend, eExtend, datN_i, datN_n, datN_b, datN_l, datN_t, datNs_Ints, datNs_nil, eqP_ii, eqP_ll, eqP_tt, eqP_nn, eqP_bb, eqPs_Ints, eqPs_nn, eqPs_nc, eqPs_cn, lineN, ef, e2, e3]
  exact g _ e
section
variable {x0 x1 x2 x3 x4 x5 x6 x7 x8 x9 x10 x11 x12 x13 x14 x15 x16 x17 x18 x19 x20 x21 x22 x23 : Sl}
theorem A7 {cs ss : List Int} (h : Ln cs ss) : (sIf (tNotF (tOf (eCall F__law_is (aCons (eCall F_leaves (aCons (eVar 4) (aCons (eNary clTuple (aCons (ePk 7) aNil)) aNil))) (aCons (eNary clTuple (aCons (ePk 8) aNil)) aNil))))) (sRet (eC (.bl false))) sNil) [x0, x1, x2, x3, .fz (.lst (Ints cs)), x5, x6, .fz (.lst (Ints ss)), .own (Ints (lvs none cs ss)), x9, x10, x11, x12, x13, x14, x15, x16, x17, x18, x19, x20, x21, x22, x23] = some (.nx, [x0, x1, x2, x3, .fz (.lst (Ints cs)), x5, x6, .fz (.lst (Ints ss)), .own (Ints (lvs none cs ss)), x9, x10, x11, x12, x13, x14, x15, x16, x17, x18, x19, x20, x21, x22, x23]) := by
  have e := S_leaves (p := .lst (Ints cs)) (q := .tup (Ints ss)) (.inl rfl) (.inr rfl) h
  have e2 := S_is (p := .tup (Ints (lvs none cs ss))) (by rw [datN_t]; exact datNs_Ints _ _)
  (apply Eq.trans; apply PL.stIfN; apply Eq.trans; apply PL.stNot; apply Eq.trans; apply PL.stOf; apply Eq.trans; apply PL.stCall; apply Eq.trans; apply PL.stCons; apply Eq.trans; apply PL.stCall; apply Eq.trans; apply PL.stCons; apply Eq.trans; apply PL.stVar; rfl; rfl; apply Eq.trans; apply PL.stCons; apply Eq.trans; apply PL.stNary; apply Eq.trans; apply PL.stCons; apply Eq.trans; apply PL.stPk; rfl; rfl; apply Eq.trans; apply PL.stNil; rfl; rfl; rfl; rfl; rfl; apply Eq.trans; apply PL.stNil; rfl; rfl; rfl; exact e; rfl; apply Eq.trans; apply PL.stCons; apply Eq.trans; apply PL.stNary; apply Eq.trans; apply PL.stCons; apply Eq.trans; apply PL.stPkO; rfl; rfl; apply Eq.trans; apply PL.stNil; rfl; rfl; rfl; rfl; rfl; apply Eq.trans; apply PL.stNil; rfl; rfl; rfl; exact e2; rfl; rfl; rfl; exact (PL.not_f rfl); apply Eq.trans; apply PL.stNilS; rfl; rfl)
theorem T_l2 {cs ss ds : List Int} : F_law_l2 [x0, x1, x2, x3, .fz (.lst (Ints cs)), x5, x6, .fz (.lst (Ints ss)), .own (Ints ds), x9, x10, x11, x12, x13, x14, x15, x16, x17, x18, x19, x20, x21, x22, x23] = some (.own (Ints (wts cs ss ds)), [x0, x1, x2, x3, .fz (.lst (Ints cs)), x5, x6, .fz (.lst (Ints ss)), .fz (.lst (Ints ds)), x9, x10, x11, x12, x13, x14, x15, x16, x17, x18, x19, x20, x21, x22, x23]) := by
  rw [← zip3_wts]
  refine eLc_map (items := zip3P (Ints cs) (Ints ss) (Ints ds)) (rs := [.fz (.lst (Ints cs)), .fz (.lst (Ints ss)), .fz (.lst (Ints ds))]) _ (by (apply Eq.trans; apply PL.stZip3; apply Eq.trans; apply PL.stCons; apply Eq.trans; apply PL.stVar; rfl; rfl; apply Eq.trans; apply PL.stCons; apply Eq.trans; apply PL.stVar; rfl; rfl; apply Eq.trans; apply PL.stCons; apply Eq.trans; apply PL.stVarO; rfl; rfl; apply Eq.trans; apply PL.stNil; rfl; rfl; rfl; rfl; rfl; rfl; rfl; rfl)) (by rfl) (by decide) (by simp) fun z hz => ?_
  obtain ⟨c, s, l, rfl⟩ := zip3_mem hz
  refine ⟨[.fz (.int c), .fz (.int s), .fz (.int l)], .fz (.int (l - s - c)), [.fz (.int c), .fz (.int s), .fz (.int l)], ?_⟩
  simp [fnF, prepP, finP, sNil, sSeq, sIf, sRet, sRetN, sExpr, sSet, sPar, sPar3, sAsg, sSetIx, sFor, gNm, gTp, gsNil, gsCons, eVar, ePk, eMv, eBor, eC, eBin, eNeg, eAndF, eOrF, eNotF, eIf, eChain, eTup, eLst, eNary, eCall, eMeth, eMake, eFld, eSl, oSome, oNone, aNil, aCons, tOf, tAndF, tOrF, tNotF, cont, conts, tmpOf, valOf, valsOf, toVl, Vl.sl, putB, iSeq, seqOf, iRange1, iRange2, iZip2, iZip3, iEnum, opAdd, opSub, opMul, opMod, opFdiv, opPow, opEq, opNe, opLt, opLe, opGt, opGe, opCmp, opIs, opIsNot, opIx, opSl, isNon, clLen, clAbs, clInt, clMax, clMin, clMax2, clMin2, clSum, clSum2, clAll, clAny, clTuple, clList, clIsi, isTy, isAny, tyP, subTy, eAppend, eExtend, datN_i, datN_n, datN_b, datN_l, datN_t, datNs_Ints, datNs_nil, eqP_ii, eqP_ll, eqP_tt, eqP_nn, eqP_bb, eqPs_Ints, eqPs_nn, eqPs_nc, eqPs_cn, lineN, wipeS, backS]
theorem A10 {cs ss : List Int} {m : Nat} (h : Ln cs ss) (hm : cs.length = m) : (sIf (tNotF (tOf (eCall F__law_is (aCons (eCall F_mean_wait (aCons (eVar 4) (aCons (eVar 7) aNil))) (aCons (eCall F__law_fraction (aCons (eNary clSum2 (aCons (ePk 12) aNil)) (aCons (eVar 3) aNil))) aNil))))) (sRet (eC (.bl false))) sNil) [x0, x1, x2, .fz (.int m), .fz (.lst (Ints cs)), x5, x6, .fz (.lst (Ints ss)), x8, x9, x10, x11, .own (Ints (wts cs ss (lvs none cs ss))), x13, x14, x15, x16, x17, x18, x19, x20, x21, x22, x23] = some (.nx, [x0, x1, x2, .fz (.int m), .fz (.lst (Ints cs)), x5, x6, .fz (.lst (Ints ss)), x8, x9, x10, x11, .own (Ints (wts cs ss (lvs none cs ss))), x13, x14, x15, x16, x17, x18, x19, x20, x21, x22, x23]) := by
  have e := S_mean (p := .lst (Ints cs)) (q := .lst (Ints ss)) (.inl rfl) (.inl rfl) h
  have h1 := h.l1
  have h2 := h.l2
  rw [hm] at e
  have e2 := S_lfraction (t := (wts cs ss (lvs none cs ss)).sum) (b := m) (by omega) (by omega)
  have e3 := S_is (p := frac (wts cs ss (lvs none cs ss)).sum m) (datN_frac _ _ _)
  have e4 := intsOf_Ints (wts cs ss (lvs none cs ss))
  generalize frac (wts cs ss (lvs none cs ss)).sum m = f at *
  (apply Eq.trans; apply PL.stIfN; apply Eq.trans; apply PL.stNot; apply Eq.trans; apply PL.stOf; apply Eq.trans; apply PL.stCall; apply Eq.trans; apply PL.stCons; apply Eq.trans; apply PL.stCall; apply Eq.trans; apply PL.stCons; apply Eq.trans; apply PL.stVar; rfl; rfl; apply Eq.trans; apply PL.stCons; apply Eq.trans; apply PL.stVar; rfl; rfl; apply Eq.trans; apply PL.stNil; rfl; rfl; rfl; exact e; rfl; apply Eq.trans; apply PL.stCons; apply Eq.trans; apply PL.stCall; apply Eq.trans; apply PL.stCons; apply Eq.trans; apply PL.stNary; apply Eq.trans; apply PL.stCons; apply Eq.trans; apply PL.stPkO; rfl; rfl; apply Eq.trans; apply PL.stNil; rfl; rfl; rfl; apply Eq.trans; apply PL.clSum2_l; exact e4; rfl; rfl; apply Eq.trans; apply PL.stCons; apply Eq.trans; apply PL.stVar; rfl; rfl; apply Eq.trans; apply PL.stNil; rfl; rfl; rfl; exact e2; rfl; apply Eq.trans; apply PL.stNil; rfl; rfl; rfl; exact e3; rfl; rfl; rfl; exact (PL.not_f rfl); apply Eq.trans; apply PL.stNilS; rfl; rfl)
theorem T_l3 {cs ds : List Int} : F_law_l3 [x0, x1, x2, x3, .fz (.lst (Ints cs)), x5, x6, x7, .fz (.lst (Ints ds)), x9, x10, x11, x12, x13, x14, x15, x16, x17, x18, x19, x20, x21, x22, x23] = some (.own (pPs ((ds.zip (cs.drop 1)).filter isLate)), [x0, x1, x2, x3, .fz (.lst (Ints cs)), x5, x6, x7, .fz (.lst (Ints ds)), x9, x10, x11, x12, x13, x14, x15, x16, x17, x18, x19, x20, x21, x22, x23]) := by
  rw [← late_filter, ← zip_pPs]
  have ct : cutP (Ints cs) (some 1) none = Ints (cs.drop 1) := by rw [cutP_Ints, cut_one]
  refine eLc_if (items := zipP (Ints ds) (Ints (cs.drop 1))) (rs := [.fz (.lst (Ints ds)), .own (Ints (cs.drop 1))]) tbLate (fun p => p) (by rw [← ct]; (apply Eq.trans; apply PL.stZip2; apply Eq.trans; apply PL.stCons; apply Eq.trans; apply PL.stVar; rfl; rfl; apply Eq.trans; apply PL.stCons; apply Eq.trans; apply PL.stSl; apply Eq.trans; apply PL.stPk; rfl; rfl; apply Eq.trans; apply PL.stoS; apply Eq.trans; apply PL.stC; rfl; rfl; apply Eq.trans; apply PL.stoN; rfl; rfl; rfl; rfl; apply Eq.trans; apply PL.stNil; rfl; rfl; rfl; rfl; rfl; rfl)) (by rfl) (by decide) (by simp) fun z hz => ?_
  rw [zip_pPs] at hz
  obtain ⟨a, b, _, rfl⟩ := pPs_mem hz
  refine ⟨_, [.fz (.int a), .fz (.int b)], by simp [fnF, prepP, finP, sNil, sSeq, sIf, sRet, sRetN, sExpr, sSet, sPar, sPar3, sAsg, sSetIx, sFor, gNm, gTp, gsNil, gsCons, eVar, ePk, eMv, eBor, eC, eBin, eNeg, eAndF, eOrF, eNotF, eIf, eChain, eTup, eLst, eNary, eCall, eMeth, eMake, eFld, eSl, oSome, oNone, aNil, aCons, tOf, tAndF, tOrF, tNotF, cont, conts, tmpOf, valOf, valsOf, toVl, Vl.sl, putB, iSeq, seqOf, iRange1, iRange2, iZip2, iZip3, iEnum, opAdd, opSub, opMul, opMod, opFdiv, opPow, opEq, opNe, opLt, opLe, opGt, opGe, opCmp, opIs, opIsNot, opIx, opSl, isNon, clLen, clAbs, clInt, clMax, clMin, clMax2, clMin2, clSum, clSum2, clAll, clAny, clTuple, clList, clIsi, isTy, isAny, tyP, subTy, eAppend, eExtend, datN_i, datN_n, datN_b, datN_l, datN_t, datNs_Ints, datNs_nil, eqP_ii, eqP_ll, eqP_tt, eqP_nn, eqP_bb, eqPs_Ints, eqPs_nn, eqPs_nc, eqPs_cn, lineN, wipeS]; rfl, rfl, ?_, fun _ => ⟨.fz (.tup [.int a, .int b]), [.fz (.int a), .fz (.int b)], rfl, ?_, rfl⟩⟩
  · simp [fnF, prepP, finP, sNil, sSeq, sIf, sRet, sRetN, sExpr, sSet, sPar, sPar3, sAsg, sSetIx, sFor, gNm, gTp, gsNil, gsCons, eVar, ePk, eMv, eBor, eC, eBin, eNeg, eAndF, eOrF, eNotF, eIf, eChain, eTup, eLst, eNary, eCall, eMeth, eMake, eFld, eSl, oSome, oNone, aNil, aCons, tOf, tAndF, tOrF, tNotF, cont, conts, tmpOf, valOf, valsOf, toVl, Vl.sl, putB, iSeq, seqOf, iRange1, iRange2, iZip2, iZip3, iEnum, opAdd, opSub, opMul, opMod, opFdiv, opPow, opEq, opNe, opLt, opLe, opGt, opGe, opCmp, opIs, opIsNot, opIx, opSl, isNon, clLen, clAbs, clInt, clMax, clMin, clMax2, clMin2, clSum, clSum2, clAll, clAny, clTuple, clList, clIsi, isTy, isAny, tyP, subTy, eAppend, eExtend, datN_i, datN_n, datN_b, datN_l, datN_t, datNs_Ints, datNs_nil, eqP_ii, eqP_ll, eqP_tt, eqP_nn, eqP_bb, eqPs_Ints, eqPs_nn, eqPs_nc, eqPs_cn, lineN, backS, tbLate]
  · simp [fnF, prepP, finP, sNil, sSeq, sIf, sRet, sRetN, sExpr, sSet, sPar, sPar3, sAsg, sSetIx, sFor, gNm, gTp, gsNil, gsCons, eVar, ePk, eMv, eBor, eC, eBin, eNeg, eAndF, eOrF, eNotF, eIf, eChain, eTup, eLst, eNary, eCall, eMeth, eMake, eFld, eSl, oSome, oNone, aNil, aCons, tOf, tAndF, tOrF, tNotF, cont, conts, tmpOf, valOf, valsOf, toVl, Vl.sl, putB, iSeq, seqOf, iRange1, iRange2, iZip2, iZip3, iEnum, opAdd, opSub, opMul, opMod, opFdiv, opPow, opEq, opNe, opLt, opLe, opGt, opGe, opCmp, opIs, opIsNot, opIx, opSl, isNon, clLen, clAbs, clInt, clMax, clMin, clMax2, clMin2, clSum, clSum2, clAll, clAny, clTuple, clList, clIsi, isTy, isAny, tyP, subTy, eAppend, eExtend, datN_i, datN_n, datN_b, datN_l, datN_t, datNs_Ints, datNs_nil, eqP_ii, eqP_ll, eqP_tt, eqP_nn, eqP_bb, eqPs_Ints, eqPs_nn, eqPs_nc, eqPs_cn, lineN, backS]
theorem A12 {cs ss : List Int} (h : Ln cs ss) : (sIf (tNotF (tOf (eCall F__law_is (aCons (eCall F_pauses (aCons (eVar 4) (aCons (eVar 7) aNil))) (aCons (eVar 13) aNil))))) (sRet (eC (.bl false))) sNil) [x0, x1, x2, x3, .fz (.lst (Ints cs)), x5, x6, .fz (.lst (Ints ss)), x8, x9, x10, x11, x12, .own (pPs (idl cs ss)), x14, x15, x16, x17, x18, x19, x20, x21, x22, x23] = some (.nx, [x0, x1, x2, x3, .fz (.lst (Ints cs)), x5, x6, .fz (.lst (Ints ss)), x8, x9, x10, x11, x12, .fz (.lst (pPs (idl cs ss))), x14, x15, x16, x17, x18, x19, x20, x21, x22, x23]) := by
  have e := S_pauses h
  have e2 := S_is_own (xs := pPs (idl cs ss)) (datNs_pPs _ _)
  (apply Eq.trans; apply PL.stIfN; apply Eq.trans; apply PL.stNot; apply Eq.trans; apply PL.stOf; apply Eq.trans; apply PL.stCall; apply Eq.trans; apply PL.stCons; apply Eq.trans; apply PL.stCall; apply Eq.trans; apply PL.stCons; apply Eq.trans; apply PL.stVar; rfl; rfl; apply Eq.trans; apply PL.stCons; apply Eq.trans; apply PL.stVar; rfl; rfl; apply Eq.trans; apply PL.stNil; rfl; rfl; rfl; exact e; rfl; apply Eq.trans; apply PL.stCons; apply Eq.trans; apply PL.stVarO; rfl; rfl; apply Eq.trans; apply PL.stNil; rfl; rfl; rfl; exact e2; rfl; rfl; rfl; exact (PL.not_f rfl); apply Eq.trans; apply PL.stNilS; rfl; rfl)
theorem T_l4 {cs ds : List Int} {t : Int} : F_law_l4 [x0, x1, x2, x3, .fz (.lst (Ints cs)), x5, x6, x7, .fz (.lst (Ints ds)), x9, x10, x11, x12, x13, x14, .fz (.int t), x16, x17, x18, x19, x20, x21, x22, x23] = some (.own (((pPs (cs.zip ds)).filter (tbHere t)).map fun _ => PV.int 1), [x0, x1, x2, x3, .fz (.lst (Ints cs)), x5, x6, x7, .fz (.lst (Ints ds)), x9, x10, x11, x12, x13, x14, .fz (.int t), x16, x17, x18, x19, x20, x21, x22, x23]) := by
  rw [← zip_pPs]
  refine eLc_if (items := zipP (Ints cs) (Ints ds)) (rs := [.fz (.lst (Ints cs)), .fz (.lst (Ints ds))]) (tbHere t) (fun _ => .int 1) (by (apply Eq.trans; apply PL.stZip2; apply Eq.trans; apply PL.stCons; apply Eq.trans; apply PL.stVar; rfl; rfl; apply Eq.trans; apply PL.stCons; apply Eq.trans; apply PL.stVar; rfl; rfl; apply Eq.trans; apply PL.stNil; rfl; rfl; rfl; rfl; rfl; rfl)) (by rfl) (by decide) (by simp) fun z hz => ?_
  rw [zip_pPs] at hz
  obtain ⟨a, b, _, rfl⟩ := pPs_mem hz
  refine ⟨_, [.fz (.int a), .fz (.int b)], by simp [fnF, prepP, finP, sNil, sSeq, sIf, sRet, sRetN, sExpr, sSet, sPar, sPar3, sAsg, sSetIx, sFor, gNm, gTp, gsNil, gsCons, eVar, ePk, eMv, eBor, eC, eBin, eNeg, eAndF, eOrF, eNotF, eIf, eChain, eTup, eLst, eNary, eCall, eMeth, eMake, eFld, eSl, oSome, oNone, aNil, aCons, tOf, tAndF, tOrF, tNotF, cont, conts, tmpOf, valOf, valsOf, toVl, Vl.sl, putB, iSeq, seqOf, iRange1, iRange2, iZip2, iZip3, iEnum, opAdd, opSub, opMul, opMod, opFdiv, opPow, opEq, opNe, opLt, opLe, opGt, opGe, opCmp, opIs, opIsNot, opIx, opSl, isNon, clLen, clAbs, clInt, clMax, clMin, clMax2, clMin2, clSum, clSum2, clAll, clAny, clTuple, clList, clIsi, isTy, isAny, tyP, subTy, eAppend, eExtend, datN_i, datN_n, datN_b, datN_l, datN_t, datNs_Ints, datNs_nil, eqP_ii, eqP_ll, eqP_tt, eqP_nn, eqP_bb, eqPs_Ints, eqPs_nn, eqPs_nc, eqPs_cn, lineN, wipeS]; rfl, rfl, ?_, fun _ => ⟨.fz (.int 1), [.fz (.int a), .fz (.int b)], rfl, ?_, rfl⟩⟩
  · by_cases h1 : a ≤ t <;> by_cases h2 : t < b <;> simp [fnF, prepP, finP, sNil, sSeq, sIf, sRet, sRetN, sExpr, sSet, sPar, sPar3, sAsg, sSetIx, sFor, gNm, gTp, gsNil, gsCons, eVar, ePk, eMv, eBor, eC, eBin, eNeg, eAndF, eOrF, eNotF, eIf, eChain, eTup, eLst, eNary, eCall, eMeth, eMake, eFld, eSl, oSome, oNone, aNil, aCons, tOf, tAndF, tOrF, tNotF, cont, conts, tmpOf, valOf, valsOf, toVl, Vl.sl, putB, iSeq, seqOf, iRange1, iRange2, iZip2, iZip3, iEnum, opAdd, opSub, opMul, opMod, opFdiv, opPow, opEq, opNe, opLt, opLe, opGt, opGe, opCmp, opIs, opIsNot, opIx, opSl, isNon, clLen, clAbs, clInt, clMax, clMin, clMax2, clMin2, clSum, clSum2, clAll, clAny, clTuple, clList, clIsi, isTy, isAny, tyP, subTy, eAppend, eExtend, datN_i, datN_n, datN_b, datN_l, datN_t, datNs_Ints, datNs_nil, eqP_ii, eqP_ll, eqP_tt, eqP_nn, eqP_bb, eqPs_Ints, eqPs_nn, eqPs_nc, eqPs_cn, lineN, backS, tbHere, h1, h2]
  · simp [fnF, prepP, finP, sNil, sSeq, sIf, sRet, sRetN, sExpr, sSet, sPar, sPar3, sAsg, sSetIx, sFor, gNm, gTp, gsNil, gsCons, eVar, ePk, eMv, eBor, eC, eBin, eNeg, eAndF, eOrF, eNotF, eIf, eChain, eTup, eLst, eNary, eCall, eMeth, eMake, eFld, eSl, oSome, oNone, aNil, aCons, tOf, tAndF, tOrF, tNotF, cont, conts, tmpOf, valOf, valsOf, toVl, Vl.sl, putB, iSeq, seqOf, iRange1, iRange2, iZip2, iZip3, iEnum, opAdd, opSub, opMul, opMod, opFdiv, opPow, opEq, opNe, opLt, opLe, opGt, opGe, opCmp, opIs, opIsNot, opIx, opSl, isNon, clLen, clAbs, clInt, clMax, clMin, clMax2, clMin2, clSum, clSum2, clAll, clAny, clTuple, clList, clIsi, isTy, isAny, tyP, subTy, eAppend, eExtend, datN_i, datN_n, datN_b, datN_l, datN_t, datNs_Ints, datNs_nil, eqP_ii, eqP_ll, eqP_tt, eqP_nn, eqP_bb, eqPs_Ints, eqPs_nn, eqPs_nc, eqPs_cn, lineN, backS]
def cnts (cs ds : List Int) (n : Nat) : List Int := (List.range n).map fun t : Nat => (cnt cs ds t : Int)
theorem cnts_succ (cs ds : List Int) (n : Nat) : Ints (cnts cs ds n) ++ [.int (cnt cs ds n : Nat)] = Ints (cnts cs ds (n + 1)) := by
  unfold cnts
  rw [List.range_succ, List.map_append, Ints_snoc]; rfl
theorem A14 {cs ds : List Int} {f : List Int} {D : Int} {n : Nat} (hd : ds = f ++ [D]) (hD : D + 1 = n) (hn : n ≤ 1000) : ∃ y15, F_law_f3 [x0, x1, x2, x3, .fz (.lst (Ints cs)), x5, x6, x7, .fz (.lst (Ints ds)), x9, x10, x11, x12, x13, .own [], x15, x16, x17, x18, x19, x20, x21, x22, x23] = some (.nx, [x0, x1, x2, x3, .fz (.lst (Ints cs)), x5, x6, x7, .fz (.lst (Ints ds)), x9, x10, x11, x12, x13, .own (Ints (cnts cs ds n)), y15, x16, x17, x18, x19, x20, x21, x22, x23]) := by
  obtain ⟨ρ', e, y15, hρ⟩ := forP_ex (g := gNm 15) (body := F_law_b3) (I := fun ρ k => ∃ y15, ρ = [x0, x1, x2, x3, .fz (.lst (Ints cs)), x5, x6, x7, .fz (.lst (Ints ds)), x9, x10, x11, x12, x13, .own (Ints (cnts cs ds k)), y15, x16, x17, x18, x19, x20, x21, x22, x23]) (rangeP 0 n) 0 [x0, x1, x2, x3, .fz (.lst (Ints cs)), x5, x6, x7, .fz (.lst (Ints ds)), x9, x10, x11, x12, x13, .own [], x15, x16, x17, x18, x19, x20, x21, x22, x23] ⟨x15, rfl⟩ fun j p ρ hj ⟨y15, hρ⟩ => by
    subst hρ
    obtain ⟨hk, rfl⟩ := rangeP_get hj
    rw [Nat.zero_add]
    have e := T_l4 (x0 := x0) (x1 := x1) (x2 := x2) (x3 := x3) (x5 := x5) (x6 := x6) (x7 := x7) (x9 := x9) (x10 := x10) (x11 := x11) (x12 := x12) (x13 := x13) (x14 := .own (Ints (cnts cs ds j))) (x16 := x16) (x17 := x17) (x18 := x18) (x19 := x19) (x20 := x20) (x21 := x21) (x22 := x22) (x23 := x23) (cs := cs) (ds := ds) (t := (j : Nat))
    have e2 : (((pPs (cs.zip ds)).filter (tbHere (j : Nat))).map fun _ => PV.int 1).length = cnt cs ds (j : Nat) := here_filter _ _
    have hb : (Ints (cnts cs ds j)).length < lineN := lt_line (by rw [Ints_len]; unfold cnts; rw [List.length_map, List.length_range]; omega)
    refine ⟨_, [x0, x1, x2, x3, .fz (.lst (Ints cs)), x5, x6, x7, .fz (.lst (Ints ds)), x9, x10, x11, x12, x13, .own (Ints (cnts cs ds (j + 1))), .fz (.int (j : Nat)), x16, x17, x18, x19, x20, x21, x22, x23], rfl, .inl ?_, _, rfl⟩
    rw [← cnts_succ]
    generalize ((pPs (cs.zip ds)).filter (tbHere (j : Nat))).map (fun _ => PV.int 1) = L at *
    unfold F_law_b3
    (apply Eq.trans; apply PL.stExpr; apply Eq.trans; apply PL.stAppend; rfl; apply Eq.trans; apply PL.stNary; apply Eq.trans; apply PL.stCons; exact e; apply Eq.trans; apply PL.stNil; rfl; rfl; rfl; apply Eq.trans; apply PL.clLen_l; exact e2; rfl; rfl; rfl; rfl; (first | assumption | decide | omega | simp [PL.lineN]); rfl; rfl)
  subst hρ
  rw [rangeP_len, Nat.zero_add] at e
  refine ⟨y15, ?_⟩
  have k : L2.atI (Ints ds) (-1) = some (.int D) := by rw [hd, ← Ints_snoc]; exact atI_lastI f D
  have k2 : iRange1 (eBin opAdd (eBin opIx (ePk 8) (eNeg (eC (.int 1)))) (eC (.int 1))) [x0, x1, x2, x3, .fz (.lst (Ints cs)), x5, x6, x7, .fz (.lst (Ints ds)), x9, x10, x11, x12, x13, .own [], x15, x16, x17, x18, x19, x20, x21, x22, x23] = some (rangeP 0 n, [], [x0, x1, x2, x3, .fz (.lst (Ints cs)), x5, x6, x7, .fz (.lst (Ints ds)), x9, x10, x11, x12, x13, .own [], x15, x16, x17, x18, x19, x20, x21, x22, x23]) := stRange1 (i := D + 1) (by (apply Eq.trans; apply PL.stBin; apply Eq.trans; apply PL.stBin; apply Eq.trans; apply PL.stPk; rfl; rfl; apply Eq.trans; apply PL.stNeg; apply Eq.trans; apply PL.stC; rfl; rfl; rfl; rfl; apply Eq.trans; apply PL.opIx_l; exact k; rfl; rfl; apply Eq.trans; apply PL.stC; rfl; rfl; rfl; rfl; rfl)) hD (by omega)
  unfold F_law_f3
  (apply Eq.trans; apply PL.stFor; exact k2; exact e; rfl)
end
end Wk42
set_option Elab.async false
set_option linter.all false
set_option maxRecDepth 100000
set_option maxHeartbeats 1000000
namespace Wk42
open PySem PL
theorem zip_gts : ∀ (a b : List Int), ((zipP (Ints a) (Ints b)).map fun p => match p with | .tup [.int x, .int y] => .bl (decide (y < x)) | _ => .non) = Bls (gts a b)
  | [], b => by simp [Ints_nil, zipP, gts, Bls]
  | x :: a, [] => by simp [Ints_nil, Ints_cons, zipP, gts, Bls]
  | x :: a, y :: b => by
    rw [Ints_cons, Ints_cons, zipP, List.map_cons, zip_gts a b]; rfl
theorem lvs_up : ∀ (cs ss : List Int) (l : Option Int) (D B : Int), ss.length = cs.length → (∀ s ∈ ss, 0 ≤ s ∧ s ≤ 4) → (∀ c ∈ cs, c ≤ B) → (∀ t, l = some t → t ≤ B) → (lvs l cs ss).getLast? = some D → D ≤ B + 4 * cs.length
  | [], ss, l, D, B, _, _, _, _, h => by simp [lvs] at h
  | c :: cs, [], l, D, B, h, _, _, _, _ => by simp at h
  | c :: cs, s :: ss, l, D, B, hl, hs, hc, ht, h => by
    have h0 := hs s List.mem_cons_self
    have h1 := hc c List.mem_cons_self
    have h2 : stp l c s ≤ B + 4 := by
      cases l with
      | none => simp only [stp]; omega
      | some t => have := ht t rfl; simp only [stp]; omega
    rw [lvs] at h
    by_cases hn : cs = []
    · subst hn
      have e : lvs (some (stp l c s)) [] ss = [] := by simp [lvs]
      rw [e] at h
      simp at h
      subst h
      simp
      omega
    · have hn2 := lvs_ne (l := some (stp l c s)) hn (show ss.length = cs.length by simpa using hl)
      have h' : (lvs (some (stp l c s)) cs ss).getLast? = some D := by
        rw [List.getLast?_cons] at h
        cases hk : (lvs (some (stp l c s)) cs ss).getLast? with
        | none => rw [List.getLast?_eq_none_iff] at hk; exact absurd hk hn2
        | some E => rw [hk] at h; simpa using h
      have := lvs_up cs ss (some (stp l c s)) D (B + 4) (by simpa using hl) (fun x hx => hs x (List.mem_cons_of_mem _ hx)) (fun x hx => by have := hc x (List.mem_cons_of_mem _ hx); omega) (fun t e => by cases e; exact h2) h'
      rw [List.length_cons]
      omega
theorem lvs_bound {cs ss : List Int} {m : Nat} {D : Int} (h : Ln cs ss) (bs : ∀ x ∈ ss, 1 ≤ x ∧ x ≤ 4) (bc : ∀ c ∈ cs, 0 ≤ c ∧ c ≤ 5 * m) (lc : cs.length = m) (hm : m ≤ 7) (hD : (lvs none cs ss).getLast? = some D) : D ≤ 200 := by
  have := lvs_up cs ss none D 35 h.ls (fun s hs => by have := bs s hs; omega) (fun c hc => by have := bc c hc; omega) (fun t e => by cases e) hD
  omega
section
variable {x0 x1 x2 x3 x4 x5 x6 x7 x8 x9 x10 x11 x12 x13 x14 x15 x16 x17 x18 x19 x20 x21 x22 x23 : Sl}
theorem A15 {cs ss : List Int} {n : Nat} (h : Ln cs ss) (hn : 0 < n) (hc : ∀ c ∈ cs, 0 ≤ c ∧ c < n) : (sIf (tNotF (tOf (eCall F__law_is (aCons (eCall F_room (aCons (eVar 4) (aCons (eVar 7) aNil))) (aCons (eNary clMax2 (aCons (ePk 14) aNil)) aNil))))) (sRet (eC (.bl false))) sNil) [x0, x1, x2, x3, .fz (.lst (Ints cs)), x5, x6, .fz (.lst (Ints ss)), x8, x9, x10, x11, x12, x13, .own (Ints (cnts cs (lvs none cs ss) n)), x15, x16, x17, x18, x19, x20, x21, x22, x23] = some (.nx, [x0, x1, x2, x3, .fz (.lst (Ints cs)), x5, x6, .fz (.lst (Ints ss)), x8, x9, x10, x11, x12, x13, .own (Ints (cnts cs (lvs none cs ss) n)), x15, x16, x17, x18, x19, x20, x21, x22, x23]) := by
  have e := S_room h
  have e1 : maxL (cnts cs (lvs none cs ss) n) = rm cs (lvs none cs ss) cs 0 := room_eq hc hn
  have e2 := S_is (p := .int (rm cs (lvs none cs ss) cs 0)) (datN_i _ _)
  rw [← e1] at e e2
  have e3 := intsOf_Ints (cnts cs (lvs none cs ss) n)
  have e4 : cnts cs (lvs none cs ss) n ≠ [] := fun z => by
    have := congrArg List.length z
    unfold cnts at this
    rw [List.length_map, List.length_range] at this
    simp at this
    omega
  generalize cnts cs (lvs none cs ss) n = L at *
  (apply Eq.trans; apply PL.stIfN; apply Eq.trans; apply PL.stNot; apply Eq.trans; apply PL.stOf; apply Eq.trans; apply PL.stCall; apply Eq.trans; apply PL.stCons; apply Eq.trans; apply PL.stCall; apply Eq.trans; apply PL.stCons; apply Eq.trans; apply PL.stVar; rfl; rfl; apply Eq.trans; apply PL.stCons; apply Eq.trans; apply PL.stVar; rfl; rfl; apply Eq.trans; apply PL.stNil; rfl; rfl; rfl; exact e; rfl; apply Eq.trans; apply PL.stCons; apply Eq.trans; apply PL.stNary; apply Eq.trans; apply PL.stCons; apply Eq.trans; apply PL.stPkO; rfl; rfl; apply Eq.trans; apply PL.stNil; rfl; rfl; rfl; apply Eq.trans; apply PL.clMax2_l; exact e3; (first | assumption | decide | omega | simp [PL.lineN]); rfl; rfl; apply Eq.trans; apply PL.stNil; rfl; rfl; rfl; exact e2; rfl; rfl; rfl; exact (PL.not_f rfl); apply Eq.trans; apply PL.stNilS; rfl; rfl)
theorem T_l5 {cs ss : List Int} {a : Nat} (h : Ln cs ss) (ha : a < cs.length) : F_law_l5 [x0, x1, x2, x3, .fz (.lst (Ints cs)), x5, x6, .fz (.lst (Ints ss)), x8, x9, x10, x11, x12, x13, x14, x15, .fz (.int a), x17, x18, x19, x20, x21, x22, x23] = some (.own (Ints (sms cs ss a)), [x0, x1, x2, x3, .fz (.lst (Ints cs)), x5, x6, .fz (.lst (Ints ss)), x8, x9, x10, x11, x12, x13, x14, x15, .fz (.int a), x17, x18, x19, x20, x21, x22, x23]) := by
  have hn := h.l2
  have e : Ints (sms cs ss a) = (rangeP 0 (a + 1)).map fun p => .int (sm cs ss a (jOf p)) := by
    rw [rangeP_map]
    unfold Ints sms
    rw [List.map_map]
    rfl
  rw [e]
  refine eLc_map (items := rangeP 0 (a + 1)) (rs := []) (fun p => .int (sm cs ss a (jOf p))) (by (apply Eq.trans; apply PL.stRange1; apply Eq.trans; apply PL.stBin; apply Eq.trans; apply PL.stPk; rfl; rfl; apply Eq.trans; apply PL.stC; rfl; rfl; rfl; rfl; rfl; exact (show _ = (((a + 1) : Nat) : Int) from by first | rfl | omega); (first | assumption | omega); rfl)) (by rfl) (by decide) (by simp) fun z hz => ?_
  obtain ⟨f, hf, rfl⟩ := rangeP_mem hz
  have k1 := atI_Ints (xs := cs) (f := f) (by omega)
  have k2 : intsOf (cutP (Ints ss) (some (f : Int)) (some ((a : Int) + 1))) = some ((ss.drop f).take (a + 1 - f)) := by rw [cutP_Ints, cut_fa (by omega) (by rw [h.ls]; exact ha), intsOf_Ints]
  have k3 : jOf (.int (f : Nat)) = f := rfl
  have k4 : sm cs ss a f = cs.getD f 0 + ((ss.drop f).take (a + 1 - f)).sum := rfl
  refine ⟨[.fz (.int f)], .fz (.int (sm cs ss a f)), [.fz (.int f)], rfl, rfl, rfl, ?_, rfl⟩
  rw [k4]
  show eBin _ _ _ [x0, x1, x2, x3, .fz (.lst (Ints cs)), x5, x6, .fz (.lst (Ints ss)), x8, x9, x10, x11, x12, x13, x14, x15, .fz (.int a), x17, .fz (.int f), x19, x20, x21, x22, x23] = some (_, [x0, x1, x2, x3, .fz (.lst (Ints cs)), x5, x6, .fz (.lst (Ints ss)), x8, x9, x10, x11, x12, x13, x14, x15, .fz (.int a), x17, .fz (.int f), x19, x20, x21, x22, x23])
  (apply Eq.trans; apply PL.stBin; apply Eq.trans; apply PL.stBin; apply Eq.trans; apply PL.stPk; rfl; rfl; apply Eq.trans; apply PL.stPk; rfl; rfl; rfl; rfl; apply Eq.trans; apply PL.opIx_l; exact k1; rfl; rfl; apply Eq.trans; apply PL.stNary; apply Eq.trans; apply PL.stCons; apply Eq.trans; apply PL.stSl; apply Eq.trans; apply PL.stPk; rfl; rfl; apply Eq.trans; apply PL.stoS; apply Eq.trans; apply PL.stPk; rfl; rfl; rfl; apply Eq.trans; apply PL.stoS; apply Eq.trans; apply PL.stBin; apply Eq.trans; apply PL.stPk; rfl; rfl; apply Eq.trans; apply PL.stC; rfl; rfl; rfl; rfl; rfl; rfl; rfl; rfl; rfl; apply Eq.trans; apply PL.stNil; rfl; rfl; rfl; apply Eq.trans; apply PL.clSum2_l; exact k2; rfl; rfl; rfl; rfl; rfl; rfl)
theorem A18 {cs ss : List Int} {a : Nat} (h : Ln cs ss) (ha : a < cs.length) : (sIf (tOrF (tOf (eBin opNe (eNary clMax2 (aCons (ePk 17) aNil)) (eBin opIx (ePk 8) (ePk 16)))) (tNotF (tOf (eCall F__law_is (aCons (eCall F_reason (aCons (eVar 4) (aCons (eVar 7) (aCons (eVar 16) aNil)))) (aCons (eIndex (ePk 17) (eNary clMax2 (aCons (ePk 17) aNil))) aNil)))))) (sRet (eC (.bl false))) sNil) [x0, x1, x2, x3, .fz (.lst (Ints cs)), x5, x6, .fz (.lst (Ints ss)), .fz (.lst (Ints (lvs none cs ss))), x9, x10, x11, x12, x13, x14, x15, .fz (.int a), .own (Ints (sms cs ss a)), x18, x19, x20, x21, x22, x23] = some (.nx, [x0, x1, x2, x3, .fz (.lst (Ints cs)), x5, x6, .fz (.lst (Ints ss)), .fz (.lst (Ints (lvs none cs ss))), x9, x10, x11, x12, x13, x14, x15, .fz (.int a), .own (Ints (sms cs ss a)), x18, x19, x20, x21, x22, x23]) := by
  have hM : (lvs none cs ss).getD a 0 = maxL (sms cs ss a) := lvs_sm cs ss none a h.ls ha
  obtain ⟨j, hj, hjl⟩ := idx_max (sms_ne cs ss a)
  have e := S_reason h ha hM hj
  have e1 := intsOf_Ints (sms cs ss a)
  have e2 := sms_ne cs ss a
  have e3 : L2.atI (Ints (lvs none cs ss)) (a : Int) = some (.int (maxL (sms cs ss a))) := by rw [← hM]; exact atI_Ints (by rw [lvs_len _ _ _ h.ls]; exact ha)
  have e4 := S_is (p := .int j) (datN_i _ _)
  have e5 : datN 60 (.lst (Ints (sms cs ss a))) = true := by rw [datN_l]; exact datNs_Ints _ _
  have e6 : datN 60 (.int (maxL (sms cs ss a))) = true := datN_i _ _
  (apply Eq.trans; apply PL.stIfN; apply Eq.trans; apply PL.stTOrN; apply Eq.trans; apply PL.stOf; apply Eq.trans; apply PL.stBin; apply Eq.trans; apply PL.stNary; apply Eq.trans; apply PL.stCons; apply Eq.trans; apply PL.stPkO; rfl; rfl; apply Eq.trans; apply PL.stNil; rfl; rfl; rfl; apply Eq.trans; apply PL.clMax2_l; exact e1; (first | assumption | decide | omega | simp [PL.lineN]); rfl; rfl; apply Eq.trans; apply PL.stBin; apply Eq.trans; apply PL.stPk; rfl; rfl; apply Eq.trans; apply PL.stPk; rfl; rfl; rfl; rfl; apply Eq.trans; apply PL.opIx_l; exact e3; rfl; rfl; rfl; rfl; apply Eq.trans; apply PL.opNe_ii; rfl; rfl; rfl; exact (PL.not_f (decide_eq_true (by first | with_reducible assumption | rfl | omega | (simp only [*]; done)))); apply Eq.trans; apply PL.stNot; apply Eq.trans; apply PL.stOf; apply Eq.trans; apply PL.stCall; apply Eq.trans; apply PL.stCons; apply Eq.trans; apply PL.stCall; apply Eq.trans; apply PL.stCons; apply Eq.trans; apply PL.stVar; rfl; rfl; apply Eq.trans; apply PL.stCons; apply Eq.trans; apply PL.stVar; rfl; rfl; apply Eq.trans; apply PL.stCons; apply Eq.trans; apply PL.stVar; rfl; rfl; apply Eq.trans; apply PL.stNil; rfl; rfl; rfl; rfl; exact e; rfl; apply Eq.trans; apply PL.stCons; apply Eq.trans; apply PL.stIndex; apply Eq.trans; apply PL.stPkO; rfl; rfl; rfl; apply Eq.trans; apply PL.stNary; apply Eq.trans; apply PL.stCons; apply Eq.trans; apply PL.stPkO; rfl; rfl; apply Eq.trans; apply PL.stNil; rfl; rfl; rfl; apply Eq.trans; apply PL.clMax2_l; exact e1; (first | assumption | decide | omega | simp [PL.lineN]); rfl; rfl; rfl; rfl; exact e5; exact e6; exact hj; rfl; apply Eq.trans; apply PL.stNil; rfl; rfl; rfl; exact e4; rfl; rfl; rfl; rfl; exact (PL.not_f rfl); apply Eq.trans; apply PL.stNilS; rfl; rfl)
theorem B_f4 {cs ss : List Int} {a : Nat} {p : PV} (h : Ln cs ss) (ha : a < cs.length) (hp : odd p ∨ ∃ i, p = .int i) : ∃ y19, F_law_b4 [x0, x1, x2, x3, .fz (.lst (Ints cs)), x5, x6, .fz (.lst (Ints ss)), x8, x9, x10, x11, x12, x13, x14, x15, .fz (.int a), .own (Ints (sms cs ss a)), .fz p, x19, x20, x21, x22, x23] = some (.nx, [x0, x1, x2, x3, .fz (.lst (Ints cs)), x5, x6, .fz (.lst (Ints ss)), x8, x9, x10, x11, x12, x13, x14, x15, .fz (.int a), .own (Ints (sms cs ss a)), .fz p, y19, x20, x21, x22, x23]) := by
  have e := S_isr h ha hp
  have e0 := S_is (p := .bl (isr cs ss a p)) (datN_b _ _)
  have e1 := intsOf_Ints (sms cs ss a)
  have e2 := sms_ne cs ss a
  rcases hp with hp | ⟨i, rfl⟩
  · have e3 : isr cs ss a p = false := by rcases hp with rfl | ⟨b, rfl⟩ | ⟨x, rfl⟩ <;> rfl
    rw [e3] at e e0
    refine ⟨.fz (.bl false), ?_⟩
    unfold F_law_b4
    rcases hp with rfl | ⟨b, rfl⟩ | ⟨x, rfl⟩ <;> (first | (apply PL.stSeqN; apply Eq.trans; apply PL.stSet; apply Eq.trans; apply PL.stAndN; apply Eq.trans; apply PL.stNary; apply Eq.trans; apply PL.stCons; apply Eq.trans; apply PL.stPk; rfl; rfl; apply Eq.trans; apply PL.stCons; apply Eq.trans; apply PL.stC; rfl; apply Eq.trans; apply PL.stNil; rfl; rfl; rfl; rfl; rfl; rfl; exact rfl; rfl; rfl; rfl; apply Eq.trans; apply PL.stIfN; apply Eq.trans; apply PL.stNot; apply Eq.trans; apply PL.stOf; apply Eq.trans; apply PL.stCall; apply Eq.trans; apply PL.stCons; apply Eq.trans; apply PL.stCall; apply Eq.trans; apply PL.stCons; apply Eq.trans; apply PL.stVar; rfl; rfl; apply Eq.trans; apply PL.stCons; apply Eq.trans; apply PL.stVar; rfl; rfl; apply Eq.trans; apply PL.stCons; apply Eq.trans; apply PL.stVar; rfl; rfl; apply Eq.trans; apply PL.stCons; apply Eq.trans; apply PL.stVar; rfl; rfl; apply Eq.trans; apply PL.stNil; rfl; rfl; rfl; rfl; rfl; exact e; rfl; apply Eq.trans; apply PL.stCons; apply Eq.trans; apply PL.stAndN; apply Eq.trans; apply PL.stVar; rfl; rfl; exact rfl; rfl; apply Eq.trans; apply PL.stNil; rfl; rfl; rfl; exact e0; rfl; rfl; rfl; exact (PL.not_f rfl); apply Eq.trans; apply PL.stNilS; rfl; rfl) | (apply PL.stSeqN; apply Eq.trans; apply PL.stSet; apply Eq.trans; apply PL.stAndT; apply Eq.trans; apply PL.stNary; apply Eq.trans; apply PL.stCons; apply Eq.trans; apply PL.stPk; rfl; rfl; apply Eq.trans; apply PL.stCons; apply Eq.trans; apply PL.stC; rfl; apply Eq.trans; apply PL.stNil; rfl; rfl; rfl; rfl; rfl; rfl; exact rfl; apply Eq.trans; apply PL.stAndN; apply Eq.trans; apply PL.stNotE; apply Eq.trans; apply PL.stNary; apply Eq.trans; apply PL.stCons; apply Eq.trans; apply PL.stPk; rfl; rfl; apply Eq.trans; apply PL.stCons; apply Eq.trans; apply PL.stC; rfl; apply Eq.trans; apply PL.stNil; rfl; rfl; rfl; rfl; rfl; rfl; rfl; exact (PL.not_f rfl); rfl; rfl; rfl; rfl; apply Eq.trans; apply PL.stIfN; apply Eq.trans; apply PL.stNot; apply Eq.trans; apply PL.stOf; apply Eq.trans; apply PL.stCall; apply Eq.trans; apply PL.stCons; apply Eq.trans; apply PL.stCall; apply Eq.trans; apply PL.stCons; apply Eq.trans; apply PL.stVar; rfl; rfl; apply Eq.trans; apply PL.stCons; apply Eq.trans; apply PL.stVar; rfl; rfl; apply Eq.trans; apply PL.stCons; apply Eq.trans; apply PL.stVar; rfl; rfl; apply Eq.trans; apply PL.stCons; apply Eq.trans; apply PL.stVar; rfl; rfl; apply Eq.trans; apply PL.stNil; rfl; rfl; rfl; rfl; rfl; exact e; rfl; apply Eq.trans; apply PL.stCons; apply Eq.trans; apply PL.stAndN; apply Eq.trans; apply PL.stVar; rfl; rfl; exact rfl; rfl; apply Eq.trans; apply PL.stNil; rfl; rfl; rfl; exact e0; rfl; rfl; rfl; exact (PL.not_f rfl); apply Eq.trans; apply PL.stNilS; rfl; rfl))
  · by_cases hi : 0 ≤ i ∧ i ≤ a
    · obtain ⟨f, rfl⟩ : ∃ f : Nat, i = (f : Int) := ⟨i.toNat, by omega⟩
      have hf : (f : Int) ≤ a := hi.2
      have hf0 : (0 : Int) ≤ (f : Int) := hi.1
      have e3 := atI_Ints (xs := sms cs ss a) (f := f) (by rw [sms_len]; omega)
      have e4 : isr cs ss a (.int f) = decide ((sms cs ss a).getD f 0 = maxL (sms cs ss a)) := by
        show isrI cs ss a f = _
        unfold isrI
        rw [decide_eq_true hi, Bool.true_and]; rfl
      rw [e4] at e e0
      refine ⟨.fz (.bl (decide ((f : Int) ≤ a))), ?_⟩
      unfold F_law_b4
      (apply PL.stSeqN; apply Eq.trans; apply PL.stSet; apply Eq.trans; apply PL.stAndT; apply Eq.trans; apply PL.stNary; apply Eq.trans; apply PL.stCons; apply Eq.trans; apply PL.stPk; rfl; rfl; apply Eq.trans; apply PL.stCons; apply Eq.trans; apply PL.stC; rfl; apply Eq.trans; apply PL.stNil; rfl; rfl; rfl; rfl; rfl; rfl; exact rfl; apply Eq.trans; apply PL.stAndT; apply Eq.trans; apply PL.stNotE; apply Eq.trans; apply PL.stNary; apply Eq.trans; apply PL.stCons; apply Eq.trans; apply PL.stPk; rfl; rfl; apply Eq.trans; apply PL.stCons; apply Eq.trans; apply PL.stC; rfl; apply Eq.trans; apply PL.stNil; rfl; rfl; rfl; rfl; rfl; rfl; rfl; exact (PL.not_t rfl); apply Eq.trans; apply PL.stChainT; apply Eq.trans; apply PL.stC; rfl; apply Eq.trans; apply PL.stPk; rfl; rfl; rfl; rfl; rfl; exact (decide_eq_true (by first | with_reducible assumption | rfl | omega | (simp only [*]; done))); apply Eq.trans; apply PL.stPk; rfl; rfl; rfl; rfl; rfl; rfl; rfl; rfl; rfl; rfl; apply Eq.trans; apply PL.stIfN; apply Eq.trans; apply PL.stNot; apply Eq.trans; apply PL.stOf; apply Eq.trans; apply PL.stCall; apply Eq.trans; apply PL.stCons; apply Eq.trans; apply PL.stCall; apply Eq.trans; apply PL.stCons; apply Eq.trans; apply PL.stVar; rfl; rfl; apply Eq.trans; apply PL.stCons; apply Eq.trans; apply PL.stVar; rfl; rfl; apply Eq.trans; apply PL.stCons; apply Eq.trans; apply PL.stVar; rfl; rfl; apply Eq.trans; apply PL.stCons; apply Eq.trans; apply PL.stVar; rfl; rfl; apply Eq.trans; apply PL.stNil; rfl; rfl; rfl; rfl; rfl; exact e; rfl; apply Eq.trans; apply PL.stCons; apply Eq.trans; apply PL.stAndT; apply Eq.trans; apply PL.stVar; rfl; rfl; exact (decide_eq_true (by first | with_reducible assumption | rfl | omega | (simp only [*]; done))); apply Eq.trans; apply PL.stBin; apply Eq.trans; apply PL.stBin; apply Eq.trans; apply PL.stPkO; rfl; rfl; apply Eq.trans; apply PL.stPk; rfl; rfl; rfl; rfl; apply Eq.trans; apply PL.opIx_l; exact e3; rfl; rfl; apply Eq.trans; apply PL.stNary; apply Eq.trans; apply PL.stCons; apply Eq.trans; apply PL.stPkO; rfl; rfl; apply Eq.trans; apply PL.stNil; rfl; rfl; rfl; apply Eq.trans; apply PL.clMax2_l; exact e1; (first | assumption | decide | omega | simp [PL.lineN]); rfl; rfl; rfl; rfl; apply Eq.trans; apply PL.opEq_ii; rfl; rfl; rfl; apply Eq.trans; apply PL.stNil; rfl; rfl; rfl; exact e0; rfl; rfl; rfl; exact (PL.not_f rfl); apply Eq.trans; apply PL.stNilS; rfl; rfl)
    · have e3 : isr cs ss a (.int i) = false := by
        show isrI cs ss a i = _
        unfold isrI
        rw [decide_eq_false hi]; rfl
      rw [e3] at e e0
      by_cases h0 : 0 ≤ i
      · have h1 : ¬ i ≤ a := fun z => hi ⟨h0, z⟩
        refine ⟨.fz (.bl (decide (i ≤ a))), ?_⟩
        unfold F_law_b4
        (apply PL.stSeqN; apply Eq.trans; apply PL.stSet; apply Eq.trans; apply PL.stAndT; apply Eq.trans; apply PL.stNary; apply Eq.trans; apply PL.stCons; apply Eq.trans; apply PL.stPk; rfl; rfl; apply Eq.trans; apply PL.stCons; apply Eq.trans; apply PL.stC; rfl; apply Eq.trans; apply PL.stNil; rfl; rfl; rfl; rfl; rfl; rfl; exact rfl; apply Eq.trans; apply PL.stAndT; apply Eq.trans; apply PL.stNotE; apply Eq.trans; apply PL.stNary; apply Eq.trans; apply PL.stCons; apply Eq.trans; apply PL.stPk; rfl; rfl; apply Eq.trans; apply PL.stCons; apply Eq.trans; apply PL.stC; rfl; apply Eq.trans; apply PL.stNil; rfl; rfl; rfl; rfl; rfl; rfl; rfl; exact (PL.not_t rfl); apply Eq.trans; apply PL.stChainT; apply Eq.trans; apply PL.stC; rfl; apply Eq.trans; apply PL.stPk; rfl; rfl; rfl; rfl; rfl; exact (decide_eq_true (by first | with_reducible assumption | rfl | omega | (simp only [*]; done))); apply Eq.trans; apply PL.stPk; rfl; rfl; rfl; rfl; rfl; rfl; rfl; rfl; rfl; rfl; apply Eq.trans; apply PL.stIfN; apply Eq.trans; apply PL.stNot; apply Eq.trans; apply PL.stOf; apply Eq.trans; apply PL.stCall; apply Eq.trans; apply PL.stCons; apply Eq.trans; apply PL.stCall; apply Eq.trans; apply PL.stCons; apply Eq.trans; apply PL.stVar; rfl; rfl; apply Eq.trans; apply PL.stCons; apply Eq.trans; apply PL.stVar; rfl; rfl; apply Eq.trans; apply PL.stCons; apply Eq.trans; apply PL.stVar; rfl; rfl; apply Eq.trans; apply PL.stCons; apply Eq.trans; apply PL.stVar; rfl; rfl; apply Eq.trans; apply PL.stNil; rfl; rfl; rfl; rfl; rfl; exact e; rfl; apply Eq.trans; apply PL.stCons; apply Eq.trans; apply PL.stAndN; apply Eq.trans; apply PL.stVar; rfl; rfl; exact (decide_eq_false (by first | with_reducible assumption | rfl | omega | (simp only [*]; done))); rfl; apply Eq.trans; apply PL.stNil; rfl; rfl; rfl; exact e0; rfl; rfl; rfl; exact (PL.not_f rfl); apply Eq.trans; apply PL.stNilS; rfl; rfl)
      · refine ⟨.fz (.bl false), ?_⟩
        unfold F_law_b4
        (apply PL.stSeqN; apply Eq.trans; apply PL.stSet; apply Eq.trans; apply PL.stAndT; apply Eq.trans; apply PL.stNary; apply Eq.trans; apply PL.stCons; apply Eq.trans; apply PL.stPk; rfl; rfl; apply Eq.trans; apply PL.stCons; apply Eq.trans; apply PL.stC; rfl; apply Eq.trans; apply PL.stNil; rfl; rfl; rfl; rfl; rfl; rfl; exact rfl; apply Eq.trans; apply PL.stAndT; apply Eq.trans; apply PL.stNotE; apply Eq.trans; apply PL.stNary; apply Eq.trans; apply PL.stCons; apply Eq.trans; apply PL.stPk; rfl; rfl; apply Eq.trans; apply PL.stCons; apply Eq.trans; apply PL.stC; rfl; apply Eq.trans; apply PL.stNil; rfl; rfl; rfl; rfl; rfl; rfl; rfl; exact (PL.not_t rfl); apply Eq.trans; apply PL.stChainN; apply Eq.trans; apply PL.stC; rfl; apply Eq.trans; apply PL.stPk; rfl; rfl; rfl; rfl; rfl; exact (decide_eq_false (by first | with_reducible assumption | rfl | omega | (simp only [*]; done))); rfl; rfl; rfl; rfl; rfl; apply Eq.trans; apply PL.stIfN; apply Eq.trans; apply PL.stNot; apply Eq.trans; apply PL.stOf; apply Eq.trans; apply PL.stCall; apply Eq.trans; apply PL.stCons; apply Eq.trans; apply PL.stCall; apply Eq.trans; apply PL.stCons; apply Eq.trans; apply PL.stVar; rfl; rfl; apply Eq.trans; apply PL.stCons; apply Eq.trans; apply PL.stVar; rfl; rfl; apply Eq.trans; apply PL.stCons; apply Eq.trans; apply PL.stVar; rfl; rfl; apply Eq.trans; apply PL.stCons; apply Eq.trans; apply PL.stVar; rfl; rfl; apply Eq.trans; apply PL.stNil; rfl; rfl; rfl; rfl; rfl; exact e; rfl; apply Eq.trans; apply PL.stCons; apply Eq.trans; apply PL.stAndN; apply Eq.trans; apply PL.stVar; rfl; rfl; exact rfl; rfl; apply Eq.trans; apply PL.stNil; rfl; rfl; rfl; exact e0; rfl; rfl; rfl; exact (PL.not_f rfl); apply Eq.trans; apply PL.stNilS; rfl; rfl)
theorem A19 {cs ss : List Int} {a m : Nat} (h : Ln cs ss) (ha : a < cs.length) (hm : m ≤ 30) : ∃ y18 y19, F_law_f4 [x0, x1, x2, .fz (.int m), .fz (.lst (Ints cs)), x5, x6, .fz (.lst (Ints ss)), x8, x9, x10, x11, x12, x13, x14, x15, .fz (.int a), .own (Ints (sms cs ss a)), x18, x19, x20, x21, x22, x23] = some (.nx, [x0, x1, x2, .fz (.int m), .fz (.lst (Ints cs)), x5, x6, .fz (.lst (Ints ss)), x8, x9, x10, x11, x12, x13, x14, x15, .fz (.int a), .own (Ints (sms cs ss a)), y18, y19, x20, x21, x22, x23]) := by
  obtain ⟨ρ', e, y18, y19, hρ⟩ := forP_ex (g := gNm 18) (body := F_law_b4) (I := fun ρ _ => ∃ y18 y19, ρ = [x0, x1, x2, .fz (.int m), .fz (.lst (Ints cs)), x5, x6, .fz (.lst (Ints ss)), x8, x9, x10, x11, x12, x13, x14, x15, .fz (.int a), .own (Ints (sms cs ss a)), y18, y19, x20, x21, x22, x23]) (rangeP (-1) ((m : Int) + 1 - (-1)).toNat ++ [.non, .bl true, .str "0"]) 0 [x0, x1, x2, .fz (.int m), .fz (.lst (Ints cs)), x5, x6, .fz (.lst (Ints ss)), x8, x9, x10, x11, x12, x13, x14, x15, .fz (.int a), .own (Ints (sms cs ss a)), x18, x19, x20, x21, x22, x23] ⟨_, _, rfl⟩ fun j p ρ hj ⟨y18, y19, hρ⟩ => by
    subst hρ
    have hp : odd p ∨ ∃ i, p = .int i := by
      rcases List.mem_append.mp (List.mem_of_getElem? hj) with h | h
      · exact .inr (rangeP_int h)
      · simp only [List.mem_cons, List.not_mem_nil, or_false] at h
        rcases h with rfl | rfl | rfl
        · exact .inl (.inl rfl)
        · exact .inl (.inr (.inl ⟨_, rfl⟩))
        · exact .inl (.inr (.inr ⟨_, rfl⟩))
    obtain ⟨z19, e⟩ := B_f4 (x0 := x0) (x1 := x1) (x2 := x2) (x3 := .fz (.int m)) (x5 := x5) (x6 := x6) (x8 := x8) (x9 := x9) (x10 := x10) (x11 := x11) (x12 := x12) (x13 := x13) (x14 := x14) (x15 := x15) (x19 := y19) (x20 := x20) (x21 := x21) (x22 := x22) (x23 := x23) h ha hp
    exact ⟨_, _, rfl, .inl e, _, _, rfl⟩
  subst hρ
  refine ⟨y18, y19, ?_⟩
  have hlen : (rangeP (-1) ((m : Int) + 1 - (-1)).toNat).length + [PV.non, .bl true, .str "0"].length ≤ 100000 := by
    rw [rangeP_length]
    show _ + 3 ≤ _
    omega
  unfold F_law_f4
  (apply Eq.trans; apply PL.stFor; apply Eq.trans; apply PL.stISeq; apply Eq.trans; apply PL.stBin; apply Eq.trans; apply PL.stListRg; apply Eq.trans; apply PL.stRange2; apply Eq.trans; apply PL.stNeg; apply Eq.trans; apply PL.stC; rfl; rfl; apply Eq.trans; apply PL.stBin; apply Eq.trans; apply PL.stPk; rfl; rfl; apply Eq.trans; apply PL.stC; rfl; rfl; rfl; rfl; rfl; (first | assumption | decide | omega | simp [PL.lineN]); (first | assumption | decide | omega | simp [PL.lineN]); rfl; rfl; apply Eq.trans; apply PL.stLst; apply Eq.trans; apply PL.stCons; apply Eq.trans; apply PL.stC; rfl; apply Eq.trans; apply PL.stCons; apply Eq.trans; apply PL.stC; rfl; apply Eq.trans; apply PL.stCons; apply Eq.trans; apply PL.stC; rfl; apply Eq.trans; apply PL.stNil; rfl; rfl; rfl; rfl; rfl; (first | assumption | decide | omega | simp [PL.lineN]); rfl; rfl; rfl; apply Eq.trans; apply PL.opAdd_l; (first | assumption | decide | omega | simp [PL.lineN]); rfl; rfl; rfl; rfl; exact e; rfl)
theorem lvs_lens {cs ss : List Int} (h : Ln cs ss) : (lvs none cs ss).length = cs.length := lvs_len _ _ _ h.ls
theorem A20 {ss : List Int} {a : Nat} (ha : a < ss.length) (hl : ss.length ≤ 30) : (sSet 20 (eBin opAdd (eBin opAdd (eSl (ePk 7) oNone (oSome (ePk 16))) (eLst (aCons (eBin opSub (eBin opIx (ePk 7) (ePk 16)) (eC (.int 1))) aNil))) (eSl (ePk 7) (oSome (eBin opAdd (ePk 16) (eC (.int 1)))) oNone))) [x0, x1, x2, x3, x4, x5, x6, .fz (.lst (Ints ss)), x8, x9, x10, x11, x12, x13, x14, x15, .fz (.int a), x17, x18, x19, x20, x21, x22, x23] = some (.nx, [x0, x1, x2, x3, x4, x5, x6, .fz (.lst (Ints ss)), x8, x9, x10, x11, x12, x13, x14, x15, .fz (.int a), x17, x18, x19, .own (Ints (shorter ss a)), x21, x22, x23]) := by
  have e : Ints (shorter ss a) = Ints (ss.take a) ++ [.int (ss.getD a 0 - 1)] ++ Ints (ss.drop (a + 1)) := by
    unfold shorter
    rw [Ints_app, Ints_app]; rfl
  have c1 : cutP (Ints ss) none (some (a : Int)) = Ints (ss.take a) := by rw [cutP_Ints, cut_take]
  have c2 : cutP (Ints ss) (some ((a : Int) + 1)) none = Ints (ss.drop (a + 1)) := by
    rw [show (a : Int) + 1 = ((a + 1 : Nat) : Int) by simp, cutP_Ints, cut_drop]
  have k1 := atI_Ints (xs := ss) (f := a) ha
  have l1 : (cutP (Ints ss) none (some (a : Int))).length + [PV.int (ss.getD a 0 - 1)].length ≤ 100000 := by
    rw [c1, Ints_len, List.length_take]
    show _ + 1 ≤ _
    omega
  have l2 : (cutP (Ints ss) none (some (a : Int)) ++ [PV.int (ss.getD a 0 - 1)]).length + (cutP (Ints ss) (some ((a : Int) + 1)) none).length ≤ 100000 := by
    rw [c1, c2, List.length_append, Ints_len, Ints_len, List.length_take, List.length_drop]
    show _ + 1 + _ ≤ _
    omega
  rw [e, ← c1, ← c2]
  (apply Eq.trans; apply PL.stSet; apply Eq.trans; apply PL.stBin; apply Eq.trans; apply PL.stBin; apply Eq.trans; apply PL.stSl; apply Eq.trans; apply PL.stPk; rfl; rfl; apply Eq.trans; apply PL.stoN; rfl; apply Eq.trans; apply PL.stoS; apply Eq.trans; apply PL.stPk; rfl; rfl; rfl; rfl; rfl; rfl; apply Eq.trans; apply PL.stLst; apply Eq.trans; apply PL.stCons; apply Eq.trans; apply PL.stBin; apply Eq.trans; apply PL.stBin; apply Eq.trans; apply PL.stPk; rfl; rfl; apply Eq.trans; apply PL.stPk; rfl; rfl; rfl; rfl; apply Eq.trans; apply PL.opIx_l; exact k1; rfl; rfl; apply Eq.trans; apply PL.stC; rfl; rfl; rfl; rfl; rfl; apply Eq.trans; apply PL.stNil; rfl; rfl; rfl; (first | assumption | decide | omega | simp [PL.lineN]); rfl; rfl; rfl; apply Eq.trans; apply PL.opAdd_l; (first | assumption | decide | omega | simp [PL.lineN]); rfl; rfl; apply Eq.trans; apply PL.stSl; apply Eq.trans; apply PL.stPk; rfl; rfl; apply Eq.trans; apply PL.stoS; apply Eq.trans; apply PL.stBin; apply Eq.trans; apply PL.stPk; rfl; rfl; apply Eq.trans; apply PL.stC; rfl; rfl; rfl; rfl; rfl; rfl; apply Eq.trans; apply PL.stoN; rfl; rfl; rfl; rfl; rfl; rfl; apply Eq.trans; apply PL.opAdd_l; (first | assumption | decide | omega | simp [PL.lineN]); rfl; rfl; rfl; rfl)
theorem T_l6 {p : PV} {cs ss qs ds : List Int} {s20 : Sl} (hs : s20 = .own (Ints qs) ∨ s20 = .fz (.lst (Ints qs))) (h : Ln cs qs) : F_law_l6 [x0, x1, x2, x3, .fz (.lst (Ints cs)), x5, x6, .fz (.lst (Ints ss)), .fz (.lst (Ints ds)), x9, x10, x11, x12, x13, x14, x15, x16, x17, x18, x19, s20, x21, x22, x23] = some (.own (Bls (gts (lvs none cs qs) ds)), [x0, x1, x2, x3, .fz (.lst (Ints cs)), x5, x6, .fz (.lst (Ints ss)), .fz (.lst (Ints ds)), x9, x10, x11, x12, x13, x14, x15, x16, x17, x18, x19, .fz (.lst (Ints qs)), x21, x22, x23]) := by
  have e := S_leaves (p := .lst (Ints cs)) (q := .lst (Ints qs)) (.inl rfl) (.inl rfl) h
  rw [← zip_gts]
  refine eLc_map (items := zipP (Ints (lvs none cs qs)) (Ints ds)) (rs := [.fz (.tup (Ints (lvs none cs qs))), .fz (.lst (Ints ds))]) _ (by rcases hs with rfl | rfl <;> (first | (apply Eq.trans; apply PL.stZip2; apply Eq.trans; apply PL.stCons; apply Eq.trans; apply PL.stCall; apply Eq.trans; apply PL.stCons; apply Eq.trans; apply PL.stVar; rfl; rfl; apply Eq.trans; apply PL.stCons; apply Eq.trans; apply PL.stVarO; rfl; rfl; apply Eq.trans; apply PL.stNil; rfl; rfl; rfl; exact e; rfl; apply Eq.trans; apply PL.stCons; apply Eq.trans; apply PL.stVar; rfl; rfl; apply Eq.trans; apply PL.stNil; rfl; rfl; rfl; rfl; rfl; rfl) | (apply Eq.trans; apply PL.stZip2; apply Eq.trans; apply PL.stCons; apply Eq.trans; apply PL.stCall; apply Eq.trans; apply PL.stCons; apply Eq.trans; apply PL.stVar; rfl; rfl; apply Eq.trans; apply PL.stCons; apply Eq.trans; apply PL.stVar; rfl; rfl; apply Eq.trans; apply PL.stNil; rfl; rfl; rfl; exact e; rfl; apply Eq.trans; apply PL.stCons; apply Eq.trans; apply PL.stVar; rfl; rfl; apply Eq.trans; apply PL.stNil; rfl; rfl; rfl; rfl; rfl; rfl))) (by rfl) (by decide) (by simp) fun z hz => ?_
  obtain ⟨x, y, rfl⟩ := zip_ints hz
  refine ⟨[.fz (.int x), .fz (.int y)], .fz (.bl (decide (y < x))), [.fz (.int x), .fz (.int y)], rfl, rfl, rfl, ?_, rfl⟩
  simp [fnF, prepP, finP, sNil, sSeq, sIf, sRet, sRetN, sExpr, sSet, sPar, sPar3, sAsg, sSetIx, sFor, gNm, gTp, gsNil, gsCons, eVar, ePk, eMv, eBor, eC, eBin, eNeg, eAndF, eOrF, eNotF, eIf, eChain, eTup, eLst, eNary, eCall, eMeth, eMake, eFld, eSl, oSome, oNone, aNil, aCons, tOf, tAndF, tOrF, tNotF, cont, conts, tmpOf, valOf, valsOf, toVl, Vl.sl, putB, iSeq, seqOf, iRange1, iRange2, iZip2, iZip3, iEnum, opAdd, opSub, opMul, opMod, opFdiv, opPow, opEq, opNe, opLt, opLe, opGt, opGe, opCmp, opIs, opIsNot, opIx, opSl, isNon, clLen, clAbs, clInt, clMax, clMin, clMax2, clMin2, clSum, clSum2, clAll, clAny, clTuple, clList, clIsi, isTy, isAny, tyP, subTy, eAppend, eExtend, datN_i, datN_n, datN_b, datN_l, datN_t, datNs_Ints, datNs_nil, eqP_ii, eqP_ll, eqP_tt, eqP_nn, eqP_bb, eqPs_Ints, eqPs_nn, eqPs_nc, eqPs_cn, lineN, backS]
theorem T_l7 {cs : List Int} : F_law_l7 [x0, x1, x2, x3, .fz (.lst (Ints cs)), x5, x6, x7, x8, x9, x10, x11, x12, x13, x14, x15, x16, x17, x18, x19, x20, x21, x22, x23] = some (.own (Ints (sooner cs)), [x0, x1, x2, x3, .fz (.lst (Ints cs)), x5, x6, x7, x8, x9, x10, x11, x12, x13, x14, x15, x16, x17, x18, x19, x20, x21, x22, x23]) := by
  have e : Ints (sooner cs) = (Ints cs).map fun p => match p with | .int c => .int (max 0 (c - 1)) | _ => .non := by
    unfold Ints sooner
    rw [List.map_map, List.map_map]; rfl
  rw [e]
  refine eLc_map (items := Ints cs) (rs := [.fz (.lst (Ints cs))]) _ (by (apply Eq.trans; apply PL.stISeq; apply Eq.trans; apply PL.stVar; rfl; rfl; rfl; rfl)) (by rfl) (by decide) (by simp) fun z hz => ?_
  obtain ⟨c, hc, rfl⟩ := Ints_mem hz
  refine ⟨[.fz (.int c)], .fz (.int (max 0 (c - 1))), [.fz (.int c)], rfl, rfl, rfl, ?_, rfl⟩
  simp [fnF, prepP, finP, sNil, sSeq, sIf, sRet, sRetN, sExpr, sSet, sPar, sPar3, sAsg, sSetIx, sFor, gNm, gTp, gsNil, gsCons, eVar, ePk, eMv, eBor, eC, eBin, eNeg, eAndF, eOrF, eNotF, eIf, eChain, eTup, eLst, eNary, eCall, eMeth, eMake, eFld, eSl, oSome, oNone, aNil, aCons, tOf, tAndF, tOrF, tNotF, cont, conts, tmpOf, valOf, valsOf, toVl, Vl.sl, putB, iSeq, seqOf, iRange1, iRange2, iZip2, iZip3, iEnum, opAdd, opSub, opMul, opMod, opFdiv, opPow, opEq, opNe, opLt, opLe, opGt, opGe, opCmp, opIs, opIsNot, opIx, opSl, isNon, clLen, clAbs, clInt, clMax, clMin, clMax2, clMin2, clSum, clSum2, clAll, clAny, clTuple, clList, clIsi, isTy, isAny, tyP, subTy, eAppend, eExtend, datN_i, datN_n, datN_b, datN_l, datN_t, datNs_Ints, datNs_nil, eqP_ii, eqP_ll, eqP_tt, eqP_nn, eqP_bb, eqPs_Ints, eqPs_nn, eqPs_nc, eqPs_cn, lineN, backS]
theorem S_leavesO {q : PV} {cs ss : List Int} (hq : Sq q (Ints ss)) (h : Ln cs ss) : F_leaves [.own (Ints cs), .fz q] = some (.fz (.tup (Ints (lvs none cs ss))), [.fz (.lst (Ints cs)), .fz q]) := by
  have hl := h.l2
  obtain ⟨y3, y4, y5, e⟩ := L_lv (.fz (.lst (Ints cs))) (.fz q) cs ss [] .un .un .un (by simp; omega)
  rw [List.nil_append, Ints_nil] at e
  have e1 := S_check_line (p := .lst (Ints cs)) (q := q) (.inl rfl) hq h
  have e2 : F_leaves_f1 [.fz (.lst (Ints cs)), .fz q, .own [], .un, .un, .un] = some (.nx, [.fz (.lst (Ints cs)), .fz q, .own (Ints (lvs none cs ss)), y3, y4, y5]) := by
    unfold F_leaves_f1
    rcases hq with rfl | rfl <;> (apply Eq.trans; apply PL.stFor; apply Eq.trans; apply PL.stZip2; apply Eq.trans; apply PL.stCons; apply Eq.trans; apply PL.stVar; rfl; rfl; apply Eq.trans; apply PL.stCons; apply Eq.trans; apply PL.stVar; rfl; rfl; apply Eq.trans; apply PL.stNil; rfl; rfl; rfl; rfl; rfl; rfl; exact e; rfl)
  unfold F_leaves
  (apply Eq.trans; apply PL.stFn; apply PL.stSeqN; apply Eq.trans; apply PL.stExpr; apply Eq.trans; apply PL.stCall; apply Eq.trans; apply PL.stCons; apply Eq.trans; apply PL.stVarO; rfl; rfl; apply Eq.trans; apply PL.stCons; apply Eq.trans; apply PL.stVar; rfl; rfl; apply Eq.trans; apply PL.stNil; rfl; rfl; rfl; exact e1; rfl; rfl; apply PL.stSeqN; apply Eq.trans; apply PL.stSet; apply Eq.trans; apply PL.stLst; apply Eq.trans; apply PL.stNil; rfl; rfl; (first | assumption | decide | omega | simp [PL.lineN]); rfl; rfl; rfl; apply PL.stSeqN; exact e2; apply Eq.trans; apply PL.stRet; apply Eq.trans; apply PL.stNary; apply Eq.trans; apply PL.stCons; apply Eq.trans; apply PL.stPkO; rfl; rfl; apply Eq.trans; apply PL.stNil; rfl; rfl; rfl; rfl; rfl; rfl; rfl; rfl)
theorem T_l8 {cs ss ds : List Int} (h : Ln (sooner cs) ss) : F_law_l8 [x0, x1, x2, x3, .fz (.lst (Ints cs)), x5, x6, .fz (.lst (Ints ss)), .fz (.lst (Ints ds)), x9, x10, x11, x12, x13, x14, x15, x16, x17, x18, x19, x20, x21, x22, x23] = some (.own (Bls (gts (lvs none (sooner cs) ss) ds)), [x0, x1, x2, x3, .fz (.lst (Ints cs)), x5, x6, .fz (.lst (Ints ss)), .fz (.lst (Ints ds)), x9, x10, x11, x12, x13, x14, x15, x16, x17, x18, x19, x20, x21, x22, x23]) := by
  have e := S_leavesO (q := .lst (Ints ss)) (.inl rfl) h
  have e7 := T_l7 (x0 := x0) (x1 := x1) (x2 := x2) (x3 := x3) (x5 := x5) (x6 := x6) (x7 := .fz (.lst (Ints ss))) (x8 := .fz (.lst (Ints ds))) (x9 := x9) (x10 := .un) (x11 := x11) (x12 := x12) (x13 := x13) (x14 := x14) (x15 := x15) (x16 := x16) (x17 := x17) (x18 := x18) (x19 := x19) (x20 := x20) (x21 := x21) (x22 := .un) (x23 := .un) (cs := cs)
  have e7' := T_l7 (x0 := x0) (x1 := x1) (x2 := x2) (x3 := x3) (x5 := x5) (x6 := x6) (x7 := .fz (.lst (Ints ss))) (x8 := .fz (.lst (Ints ds))) (x9 := x9) (x10 := x10) (x11 := x11) (x12 := x12) (x13 := x13) (x14 := x14) (x15 := x15) (x16 := x16) (x17 := x17) (x18 := x18) (x19 := x19) (x20 := x20) (x21 := x21) (x22 := x22) (x23 := x23) (cs := cs)
  rw [← zip_gts]
  refine eLc_map (items := zipP (Ints (lvs none (sooner cs) ss)) (Ints ds)) (rs := [.fz (.tup (Ints (lvs none (sooner cs) ss))), .fz (.lst (Ints ds))]) _ (by (apply Eq.trans; apply PL.stZip2; apply Eq.trans; apply PL.stCons; apply Eq.trans; apply PL.stCall; apply Eq.trans; apply PL.stCons; exact e7'; apply Eq.trans; apply PL.stCons; apply Eq.trans; apply PL.stVar; rfl; rfl; apply Eq.trans; apply PL.stNil; rfl; rfl; rfl; exact e; rfl; apply Eq.trans; apply PL.stCons; apply Eq.trans; apply PL.stVar; rfl; rfl; apply Eq.trans; apply PL.stNil; rfl; rfl; rfl; rfl; rfl; rfl)) (by rfl) (by decide) (by simp) fun z hz => ?_
  obtain ⟨x, y, rfl⟩ := zip_ints hz
  refine ⟨[.fz (.int x), .fz (.int y)], .fz (.bl (decide (y < x))), [.fz (.int x), .fz (.int y)], rfl, rfl, rfl, ?_, rfl⟩
  simp [fnF, prepP, finP, sNil, sSeq, sIf, sRet, sRetN, sExpr, sSet, sPar, sPar3, sAsg, sSetIx, sFor, gNm, gTp, gsNil, gsCons, eVar, ePk, eMv, eBor, eC, eBin, eNeg, eAndF, eOrF, eNotF, eIf, eChain, eTup, eLst, eNary, eCall, eMeth, eMake, eFld, eSl, oSome, oNone, aNil, aCons, tOf, tAndF, tOrF, tNotF, cont, conts, tmpOf, valOf, valsOf, toVl, Vl.sl, putB, iSeq, seqOf, iRange1, iRange2, iZip2, iZip3, iEnum, opAdd, opSub, opMul, opMod, opFdiv, opPow, opEq, opNe, opLt, opLe, opGt, opGe, opCmp, opIs, opIsNot, opIx, opSl, isNon, clLen, clAbs, clInt, clMax, clMin, clMax2, clMin2, clSum, clSum2, clAll, clAny, clTuple, clList, clIsi, isTy, isAny, tyP, subTy, eAppend, eExtend, datN_i, datN_n, datN_b, datN_l, datN_t, datNs_Ints, datNs_nil, eqP_ii, eqP_ll, eqP_tt, eqP_nn, eqP_bb, eqPs_Ints, eqPs_nn, eqPs_nc, eqPs_cn, lineN, backS]
theorem turn {s : Sl} (h : Hd s) : ∃ s' ys, F_law_b5 [x0, s, x2, x3, x4, x5, x6, x7, x8, x9, x10, x11, x12, x13, x14, x15, x16, x17, x18, x19, x20, x21, x22, x23] = some (.nx, x0 :: s' :: ys) ∧ Hd s' ∧ ys.length = 22 := by
  obtain ⟨m, s1, e1, h1, m1, m7⟩ := U1 (x0 := x0) (x2 := x2) (x3 := x3) (x4 := x4) (x5 := x5) (x6 := x6) (x7 := x7) (x8 := x8) (x9 := x9) (x10 := x10) (x11 := x11) (x12 := x12) (x13 := x13) (x14 := x14) (x15 := x15) (x16 := x16) (x17 := x17) (x18 := x18) (x19 := x19) (x20 := x20) (x21 := x21) (x22 := x22) (x23 := x23) h
  obtain ⟨cs, t, s3, y6, e3, h3, lc, ic, bc⟩ := U3 (x0 := x0) (x2 := x2) (x6 := x6) (x7 := x7) (x8 := x8) (x9 := x9) (x10 := x10) (x11 := x11) (x12 := x12) (x13 := x13) (x14 := x14) (x15 := x15) (x16 := x16) (x17 := x17) (x18 := x18) (x19 := x19) (x20 := x20) (x21 := x21) (x22 := x22) (x23 := x23) h1 m7
  obtain ⟨ss, s4, e4, h4, ls, bs⟩ := T_l1 (x0 := x0) (x2 := x2) (x4 := .own (Ints cs)) (x5 := .fz (.int t)) (x6 := y6) (x7 := x7) (x8 := x8) (x9 := x9) (x10 := x10) (x11 := x11) (x12 := x12) (x13 := x13) (x14 := x14) (x15 := x15) (x16 := x16) (x17 := x17) (x18 := x18) (x19 := x19) (x20 := x20) (x21 := x21) (x22 := x22) (x23 := x23) h3 m7
  have hL : Ln cs ss := ⟨by omega, by omega, by omega, fun c hc => by have := bc c hc; omega, fun c hc => by have := bs c hc; omega, ic⟩
  obtain ⟨y9, y10, y11, e6⟩ := U6 (x0 := x0) (x1 := s4) (x2 := x2) (x3 := .fz (.int m)) (x5 := .fz (.int t)) (x6 := y6) (x10 := x10) (x11 := x11) (x12 := x12) (x13 := x13) (x14 := x14) (x15 := x15) (x16 := x16) (x17 := x17) (x18 := x18) (x19 := x19) (x20 := x20) (x21 := x21) (x22 := x22) (x23 := x23) (cs := cs) (ss := ss) (fun c hc => (bc c hc).1) (by omega)
  have sA2 : (sPar 4 5 (aCons (eLst aNil) (aCons (eC (.int 0)) aNil))) [x0, s1, x2, .fz (.int m), x4, x5, x6, x7, x8, x9, x10, x11, x12, x13, x14, x15, x16, x17, x18, x19, x20, x21, x22, x23] = some (.nx, [x0, s1, x2, .fz (.int m), .own [], .fz (.int 0), x6, x7, x8, x9, x10, x11, x12, x13, x14, x15, x16, x17, x18, x19, x20, x21, x22, x23]) := by (apply Eq.trans; apply PL.stPar; apply Eq.trans; apply PL.stCons; apply Eq.trans; apply PL.stLst; apply Eq.trans; apply PL.stNil; rfl; rfl; (first | assumption | decide | omega | simp [PL.lineN]); rfl; apply Eq.trans; apply PL.stCons; apply Eq.trans; apply PL.stC; rfl; apply Eq.trans; apply PL.stNil; rfl; rfl; rfl; rfl; rfl; rfl)
  have sA4 : (sSet 7 F_law_l1) [x0, s3, x2, .fz (.int m), .own (Ints cs), .fz (.int t), y6, x7, x8, x9, x10, x11, x12, x13, x14, x15, x16, x17, x18, x19, x20, x21, x22, x23] = some (.nx, [x0, s4, x2, .fz (.int m), .own (Ints cs), .fz (.int t), y6, .own (Ints ss), x8, x9, x10, x11, x12, x13, x14, x15, x16, x17, x18, x19, x20, x21, x22, x23]) := by (apply Eq.trans; apply PL.stSet; exact e4; rfl; rfl)
  have sA5 : (sPar 8 9 (aCons (eLst aNil) (aCons (eC (.int 0)) aNil))) [x0, s4, x2, .fz (.int m), .own (Ints cs), .fz (.int t), y6, .own (Ints ss), x8, x9, x10, x11, x12, x13, x14, x15, x16, x17, x18, x19, x20, x21, x22, x23] = some (.nx, [x0, s4, x2, .fz (.int m), .own (Ints cs), .fz (.int t), y6, .own (Ints ss), .own [], .fz (.int 0), x10, x11, x12, x13, x14, x15, x16, x17, x18, x19, x20, x21, x22, x23]) := by (apply Eq.trans; apply PL.stPar; apply Eq.trans; apply PL.stCons; apply Eq.trans; apply PL.stLst; apply Eq.trans; apply PL.stNil; rfl; rfl; (first | assumption | decide | omega | simp [PL.lineN]); rfl; apply Eq.trans; apply PL.stCons; apply Eq.trans; apply PL.stC; rfl; apply Eq.trans; apply PL.stNil; rfl; rfl; rfl; rfl; rfl; rfl)
  have hne : lvs none cs ss ≠ [] := lvs_ne (fun z => by rw [z] at lc; simp at lc; omega) hL.ls
  obtain ⟨f, D, hfD⟩ : ∃ f D, lvs none cs ss = f ++ [D] := by
    rcases List.eq_nil_or_concat (lvs none cs ss) with z | ⟨f, D, z⟩
    · exact absurd z hne
    · exact ⟨f, D, by rw [z, List.concat_eq_append]⟩
  have hlast : (lvs none cs ss).getLast? = some D := by rw [hfD]; simp
  have hcD := (lvs_last cs ss none D hL.ls (fun s hs => by have := bs s hs; omega) hlast).1
  obtain ⟨c0, hc0⟩ : ∃ c0, c0 ∈ cs := by
    cases cs with
    | nil => simp at lc; omega
    | cons c _ => exact ⟨c, List.mem_cons_self⟩
  have hD0 : 0 ≤ D := by have := hcD c0 hc0; have := bc c0 hc0; omega
  have hDn : D + 1 = ((D + 1).toNat : Int) := by omega
  have hDb : D ≤ 200 := lvs_bound hL bs bc lc m7 hlast
  have sA8 : (sSet 12 F_law_l2) [x0, s4, x2, .fz (.int m), .fz (.lst (Ints cs)), .fz (.int t), y6, .fz (.lst (Ints ss)), .own (Ints (lvs none cs ss)), y9, y10, y11, x12, x13, x14, x15, x16, x17, x18, x19, x20, x21, x22, x23] = some (.nx, [x0, s4, x2, .fz (.int m), .fz (.lst (Ints cs)), .fz (.int t), y6, .fz (.lst (Ints ss)), .fz (.lst (Ints (lvs none cs ss))), y9, y10, y11, .own (Ints (wts cs ss (lvs none cs ss))), x13, x14, x15, x16, x17, x18, x19, x20, x21, x22, x23]) := by
    have e := T_l2 (x0 := x0) (x1 := s4) (x2 := x2) (x3 := .fz (.int m)) (x5 := .fz (.int t)) (x6 := y6) (x9 := y9) (x10 := y10) (x11 := y11) (x12 := x12) (x13 := x13) (x14 := x14) (x15 := x15) (x16 := x16) (x17 := x17) (x18 := x18) (x19 := x19) (x20 := x20) (x21 := x21) (x22 := x22) (x23 := x23) (cs := cs) (ss := ss) (ds := lvs none cs ss)
    (apply Eq.trans; apply PL.stSet; exact e; rfl; rfl)
  have sA9 : (sIf (tNotF (tOf (eCall F__law_is (aCons (eCall F_waits (aCons (eVar 4) (aCons (eVar 7) aNil))) (aCons (eNary clTuple (aCons (ePk 12) aNil)) aNil))))) (sRet (eC (.bl false))) sNil) [x0, s4, x2, .fz (.int m), .fz (.lst (Ints cs)), .fz (.int t), y6, .fz (.lst (Ints ss)), .fz (.lst (Ints (lvs none cs ss))), y9, y10, y11, .own (Ints (wts cs ss (lvs none cs ss))), x13, x14, x15, x16, x17, x18, x19, x20, x21, x22, x23] = some (.nx, [x0, s4, x2, .fz (.int m), .fz (.lst (Ints cs)), .fz (.int t), y6, .fz (.lst (Ints ss)), .fz (.lst (Ints (lvs none cs ss))), y9, y10, y11, .own (Ints (wts cs ss (lvs none cs ss))), x13, x14, x15, x16, x17, x18, x19, x20, x21, x22, x23]) := by
    have e := S_waits (p := .lst (Ints cs)) (q := .lst (Ints ss)) (.inl rfl) (.inl rfl) hL
    have e2 := S_is (p := .tup (Ints (wts cs ss (lvs none cs ss)))) (by rw [datN_t]; exact datNs_Ints _ _)
    (apply Eq.trans; apply PL.stIfN; apply Eq.trans; apply PL.stNot; apply Eq.trans; apply PL.stOf; apply Eq.trans; apply PL.stCall; apply Eq.trans; apply PL.stCons; apply Eq.trans; apply PL.stCall; apply Eq.trans; apply PL.stCons; apply Eq.trans; apply PL.stVar; rfl; rfl; apply Eq.trans; apply PL.stCons; apply Eq.trans; apply PL.stVar; rfl; rfl; apply Eq.trans; apply PL.stNil; rfl; rfl; rfl; exact e; rfl; apply Eq.trans; apply PL.stCons; apply Eq.trans; apply PL.stNary; apply Eq.trans; apply PL.stCons; apply Eq.trans; apply PL.stPkO; rfl; rfl; apply Eq.trans; apply PL.stNil; rfl; rfl; rfl; rfl; rfl; apply Eq.trans; apply PL.stNil; rfl; rfl; rfl; exact e2; rfl; rfl; rfl; exact (PL.not_f rfl); apply Eq.trans; apply PL.stNilS; rfl; rfl)
  have sA11 : (sSet 13 F_law_l3) [x0, s4, x2, .fz (.int m), .fz (.lst (Ints cs)), .fz (.int t), y6, .fz (.lst (Ints ss)), .fz (.lst (Ints (lvs none cs ss))), y9, y10, y11, .own (Ints (wts cs ss (lvs none cs ss))), x13, x14, x15, x16, x17, x18, x19, x20, x21, x22, x23] = some (.nx, [x0, s4, x2, .fz (.int m), .fz (.lst (Ints cs)), .fz (.int t), y6, .fz (.lst (Ints ss)), .fz (.lst (Ints (lvs none cs ss))), y9, y10, y11, .own (Ints (wts cs ss (lvs none cs ss))), .own (pPs (idl cs ss)), x14, x15, x16, x17, x18, x19, x20, x21, x22, x23]) := by
    have e := T_l3 (x0 := x0) (x1 := s4) (x2 := x2) (x3 := .fz (.int m)) (x5 := .fz (.int t)) (x6 := y6) (x7 := .fz (.lst (Ints ss))) (x9 := y9) (x10 := y10) (x11 := y11) (x12 := .own (Ints (wts cs ss (lvs none cs ss)))) (x13 := x13) (x14 := x14) (x15 := x15) (x16 := x16) (x17 := x17) (x18 := x18) (x19 := x19) (x20 := x20) (x21 := x21) (x22 := x22) (x23 := x23) (cs := cs) (ds := lvs none cs ss)
    (apply Eq.trans; apply PL.stSet; exact e; rfl; rfl)
  obtain ⟨y15, e14⟩ := A14 (x0 := x0) (x1 := s4) (x2 := x2) (x3 := .fz (.int m)) (x5 := .fz (.int t)) (x6 := y6) (x7 := .fz (.lst (Ints ss))) (x9 := y9) (x10 := y10) (x11 := y11) (x12 := .own (Ints (wts cs ss (lvs none cs ss)))) (x13 := .fz (.lst (pPs (idl cs ss)))) (x15 := x15) (x16 := x16) (x17 := x17) (x18 := x18) (x19 := x19) (x20 := x20) (x21 := x21) (x22 := x22) (x23 := x23) (cs := cs) hfD hDn (by omega)
  have hcn : ∀ c ∈ cs, 0 ≤ c ∧ c < ((D + 1).toNat : Int) := fun c hc => by have := hcD c hc; have := bc c hc; omega
  have sA13 : (sSet 14 (eLst aNil)) [x0, s4, x2, .fz (.int m), .fz (.lst (Ints cs)), .fz (.int t), y6, .fz (.lst (Ints ss)), .fz (.lst (Ints (lvs none cs ss))), y9, y10, y11, .own (Ints (wts cs ss (lvs none cs ss))), .fz (.lst (pPs (idl cs ss))), x14, x15, x16, x17, x18, x19, x20, x21, x22, x23] = some (.nx, [x0, s4, x2, .fz (.int m), .fz (.lst (Ints cs)), .fz (.int t), y6, .fz (.lst (Ints ss)), .fz (.lst (Ints (lvs none cs ss))), y9, y10, y11, .own (Ints (wts cs ss (lvs none cs ss))), .fz (.lst (pPs (idl cs ss))), .own [], x15, x16, x17, x18, x19, x20, x21, x22, x23]) := by (apply Eq.trans; apply PL.stSet; apply Eq.trans; apply PL.stLst; apply Eq.trans; apply PL.stNil; rfl; rfl; (first | assumption | decide | omega | simp [PL.lineN]); rfl; rfl; rfl)
  obtain ⟨r, s16, d16, r0, rm', h16⟩ := call_drawV (ρ := [x0, s4, x2, .fz (.int m), .fz (.lst (Ints cs)), .fz (.int t), y6, .fz (.lst (Ints ss)), .fz (.lst (Ints (lvs none cs ss))), y9, y10, y11, .own (Ints (wts cs ss (lvs none cs ss))), .fz (.lst (pPs (idl cs ss))), .own (Ints (cnts cs (lvs none cs ss) (D + 1).toNat)), y15, x16, x17, x18, x19, x20, x21, x22, x23]) (i := 1) (j := 3) (lim := m) h4 rfl rfl (by decide) (by omega)
  obtain ⟨a, rfl⟩ : ∃ a : Nat, r = (a : Int) := ⟨r.toNat, by omega⟩
  have ha : a < cs.length := by omega
  rw [← draw_is] at d16
  have sA16 : (sSet 16 (eCall F__law_draw (aCons (eBor 1) (aCons (eVar 3) aNil)))) [x0, s4, x2, .fz (.int m), .fz (.lst (Ints cs)), .fz (.int t), y6, .fz (.lst (Ints ss)), .fz (.lst (Ints (lvs none cs ss))), y9, y10, y11, .own (Ints (wts cs ss (lvs none cs ss))), .fz (.lst (pPs (idl cs ss))), .own (Ints (cnts cs (lvs none cs ss) (D + 1).toNat)), y15, x16, x17, x18, x19, x20, x21, x22, x23] = some (.nx, [x0, s16, x2, .fz (.int m), .fz (.lst (Ints cs)), .fz (.int t), y6, .fz (.lst (Ints ss)), .fz (.lst (Ints (lvs none cs ss))), y9, y10, y11, .own (Ints (wts cs ss (lvs none cs ss))), .fz (.lst (pPs (idl cs ss))), .own (Ints (cnts cs (lvs none cs ss) (D + 1).toNat)), y15, .fz (.int a), x17, x18, x19, x20, x21, x22, x23]) := by (apply Eq.trans; apply PL.stSet; exact d16; rfl; rfl)
  have sA17 : (sSet 17 F_law_l5) [x0, s16, x2, .fz (.int m), .fz (.lst (Ints cs)), .fz (.int t), y6, .fz (.lst (Ints ss)), .fz (.lst (Ints (lvs none cs ss))), y9, y10, y11, .own (Ints (wts cs ss (lvs none cs ss))), .fz (.lst (pPs (idl cs ss))), .own (Ints (cnts cs (lvs none cs ss) (D + 1).toNat)), y15, .fz (.int a), x17, x18, x19, x20, x21, x22, x23] = some (.nx, [x0, s16, x2, .fz (.int m), .fz (.lst (Ints cs)), .fz (.int t), y6, .fz (.lst (Ints ss)), .fz (.lst (Ints (lvs none cs ss))), y9, y10, y11, .own (Ints (wts cs ss (lvs none cs ss))), .fz (.lst (pPs (idl cs ss))), .own (Ints (cnts cs (lvs none cs ss) (D + 1).toNat)), y15, .fz (.int a), .own (Ints (sms cs ss a)), x18, x19, x20, x21, x22, x23]) := by
    have e := T_l5 (x0 := x0) (x1 := s16) (x2 := x2) (x3 := .fz (.int m)) (x5 := .fz (.int t)) (x6 := y6) (x8 := .fz (.lst (Ints (lvs none cs ss)))) (x9 := y9) (x10 := y10) (x11 := y11) (x12 := .own (Ints (wts cs ss (lvs none cs ss)))) (x13 := .fz (.lst (pPs (idl cs ss)))) (x14 := .own (Ints (cnts cs (lvs none cs ss) (D + 1).toNat))) (x15 := y15) (x17 := x17) (x18 := x18) (x19 := x19) (x20 := x20) (x21 := x21) (x22 := x22) (x23 := x23) hL ha
    (apply Eq.trans; apply PL.stSet; exact e; rfl; rfl)
  obtain ⟨y18, y19, e19⟩ := A19 (x0 := x0) (x1 := s16) (x2 := x2) (x5 := .fz (.int t)) (x6 := y6) (x8 := .fz (.lst (Ints (lvs none cs ss)))) (x9 := y9) (x10 := y10) (x11 := y11) (x12 := .own (Ints (wts cs ss (lvs none cs ss)))) (x13 := .fz (.lst (pPs (idl cs ss)))) (x14 := .own (Ints (cnts cs (lvs none cs ss) (D + 1).toNat))) (x15 := y15) (x18 := x18) (x19 := x19) (x20 := x20) (x21 := x21) (x22 := x22) (x23 := x23) (m := m) hL ha (by omega)
  have ha2 : a < ss.length := by omega
  have hS : Ln cs (shorter ss a) := ⟨hL.l1, hL.l2, by rw [shorter_len ha2]; exact hL.ls, hL.bc, fun x hx => by
    rcases shorter_mem ha2 hx with hx | ⟨y, hy, rfl⟩
    · exact hL.bs x hx
    · have := bs y hy; omega, ic⟩
  have hO : Ln (sooner cs) ss := ⟨by unfold sooner; rw [List.length_map]; exact hL.l1, by unfold sooner; rw [List.length_map]; exact hL.l2, by unfold sooner; rw [List.length_map]; exact hL.ls, fun x hx => by
    obtain ⟨c, hc, rfl⟩ := List.mem_map.mp hx
    have := bc c hc
    omega, hL.bs, inc_sooner ic⟩
  have sA21 : (sIf (tOf (eNary clAny (aCons F_law_l6 aNil))) (sRet (eC (.bl false))) sNil) [x0, s16, x2, .fz (.int m), .fz (.lst (Ints cs)), .fz (.int t), y6, .fz (.lst (Ints ss)), .fz (.lst (Ints (lvs none cs ss))), y9, y10, y11, .own (Ints (wts cs ss (lvs none cs ss))), .fz (.lst (pPs (idl cs ss))), .own (Ints (cnts cs (lvs none cs ss) (D + 1).toNat)), y15, .fz (.int a), .own (Ints (sms cs ss a)), y18, y19, .own (Ints (shorter ss a)), x21, x22, x23] = some (.nx, [x0, s16, x2, .fz (.int m), .fz (.lst (Ints cs)), .fz (.int t), y6, .fz (.lst (Ints ss)), .fz (.lst (Ints (lvs none cs ss))), y9, y10, y11, .own (Ints (wts cs ss (lvs none cs ss))), .fz (.lst (pPs (idl cs ss))), .own (Ints (cnts cs (lvs none cs ss) (D + 1).toNat)), y15, .fz (.int a), .own (Ints (sms cs ss a)), y18, y19, .fz (.lst (Ints (shorter ss a))), x21, x22, x23]) := by
    have e := T_l6 (x0 := x0) (x1 := s16) (x2 := x2) (x3 := .fz (.int m)) (x5 := .fz (.int t)) (x6 := y6) (x9 := y9) (x10 := y10) (x11 := y11) (x12 := .own (Ints (wts cs ss (lvs none cs ss)))) (x13 := .fz (.lst (pPs (idl cs ss)))) (x14 := .own (Ints (cnts cs (lvs none cs ss) (D + 1).toNat))) (x15 := y15) (x16 := .fz (.int a)) (x17 := .own (Ints (sms cs ss a))) (x18 := y18) (x19 := y19) (x21 := x21) (x22 := x22) (x23 := x23) (p := .non) (ss := ss) (ds := lvs none cs ss) (.inl rfl) hS
    have e2 := lvs_mono cs cs ss (shorter ss a) none none (le2_refl cs) (le2_shorter ss a ha2) rfl (fun t t' z => by cases z)
    have e3 := blsOf_map (gts (lvs none cs (shorter ss a)) (lvs none cs ss))
    (apply Eq.trans; apply PL.stIfN; apply Eq.trans; apply PL.stOf; apply Eq.trans; apply PL.stNary; apply Eq.trans; apply PL.stCons; exact e; apply Eq.trans; apply PL.stNil; rfl; rfl; rfl; apply Eq.trans; apply PL.clAny_l; exact e3; rfl; rfl; rfl; exact (by with_reducible assumption); apply Eq.trans; apply PL.stNilS; rfl; rfl)
  have sA22 : (sIf (tOf (eNary clAny (aCons F_law_l8 aNil))) (sRet (eC (.bl false))) sNil) [x0, s16, x2, .fz (.int m), .fz (.lst (Ints cs)), .fz (.int t), y6, .fz (.lst (Ints ss)), .fz (.lst (Ints (lvs none cs ss))), y9, y10, y11, .own (Ints (wts cs ss (lvs none cs ss))), .fz (.lst (pPs (idl cs ss))), .own (Ints (cnts cs (lvs none cs ss) (D + 1).toNat)), y15, .fz (.int a), .own (Ints (sms cs ss a)), y18, y19, .fz (.lst (Ints (shorter ss a))), x21, x22, x23] = some (.nx, [x0, s16, x2, .fz (.int m), .fz (.lst (Ints cs)), .fz (.int t), y6, .fz (.lst (Ints ss)), .fz (.lst (Ints (lvs none cs ss))), y9, y10, y11, .own (Ints (wts cs ss (lvs none cs ss))), .fz (.lst (pPs (idl cs ss))), .own (Ints (cnts cs (lvs none cs ss) (D + 1).toNat)), y15, .fz (.int a), .own (Ints (sms cs ss a)), y18, y19, .fz (.lst (Ints (shorter ss a))), x21, x22, x23]) := by
    have e := T_l8 (x0 := x0) (x1 := s16) (x2 := x2) (x3 := .fz (.int m)) (x5 := .fz (.int t)) (x6 := y6) (x9 := y9) (x10 := y10) (x11 := y11) (x12 := .own (Ints (wts cs ss (lvs none cs ss)))) (x13 := .fz (.lst (pPs (idl cs ss)))) (x14 := .own (Ints (cnts cs (lvs none cs ss) (D + 1).toNat))) (x15 := y15) (x16 := .fz (.int a)) (x17 := .own (Ints (sms cs ss a))) (x18 := y18) (x19 := y19) (x20 := .fz (.lst (Ints (shorter ss a)))) (x21 := x21) (x22 := x22) (x23 := x23) (ds := lvs none cs ss) hO
    have e2 := lvs_mono cs (sooner cs) ss ss none none (le2_sooner fun c hc => (bc c hc).1) (le2_refl ss) rfl (fun t t' z => by cases z)
    have e3 := blsOf_map (gts (lvs none (sooner cs) ss) (lvs none cs ss))
    (apply Eq.trans; apply PL.stIfN; apply Eq.trans; apply PL.stOf; apply Eq.trans; apply PL.stNary; apply Eq.trans; apply PL.stCons; exact e; apply Eq.trans; apply PL.stNil; rfl; rfl; rfl; apply Eq.trans; apply PL.clAny_l; exact e3; rfl; rfl; rfl; exact (by with_reducible assumption); apply Eq.trans; apply PL.stNilS; rfl; rfl)
  refine ⟨s16, [x0, s16, x2, .fz (.int m), .fz (.lst (Ints cs)), .fz (.int t), y6, .fz (.lst (Ints ss)), .fz (.lst (Ints (lvs none cs ss))), y9, y10, y11, .own (Ints (wts cs ss (lvs none cs ss))), .fz (.lst (pPs (idl cs ss))), .own (Ints (cnts cs (lvs none cs ss) (D + 1).toNat)), y15, .fz (.int a), .own (Ints (sms cs ss a)), y18, y19, .fz (.lst (Ints (shorter ss a))), x21, x22, x23].drop 2, ?_, h16, rfl⟩
  unfold F_law_b5
  rw [seq_nx e1, seq_nx sA2, seq_nx e3, seq_nx sA4, seq_nx sA5, seq_nx e6, seq_nx (A7 hL), seq_nx sA8, seq_nx sA9, seq_nx (A10 hL lc), seq_nx sA11, seq_nx (A12 hL), seq_nx sA13, seq_nx e14, seq_nx (A15 hL (by omega) hcn), seq_nx sA16, seq_nx sA17, seq_nx (A18 hL ha), seq_nx e19, seq_nx (A20 ha2 (by omega)), seq_nx sA21, sA22]
  rfl
end
/-- THE PLAIN LAW -/
theorem law_true (ns : List Int) : ∃ as', F_law [.fz (.scr (Ints ns))] = some (.fz (.bl true), as') := by
  obtain ⟨v, ev, hv⟩ := hand_spec ns
  obtain ⟨ρ', e, s, xs, hρ, hs, hx⟩ := forP_ex (g := gNm 2) (body := F_law_b5) (I := fun ρ k => ∃ s xs, ρ = .fz (.scr (Ints ns)) :: s :: xs ∧ Hd s ∧ xs.length = 22) (rangeP 0 4) 0 (.fz (.scr (Ints ns)) :: v.sl :: List.replicate 22 .un) ⟨_, _, rfl, hv, rfl⟩ fun j p ρ hj ⟨s, xs, hρ, hs, hx⟩ => by
    subst hρ
    match xs, hx with
    | [x2, x3, x4, x5, x6, x7, x8, x9, x10, x11, x12, x13, x14, x15, x16, x17, x18, x19, x20, x21, x22, x23], _ =>
      obtain ⟨s', ys, e, hs', hy⟩ := turn (x0 := .fz (.scr (Ints ns))) (x2 := .fz p) (x3 := x3) (x4 := x4) (x5 := x5) (x6 := x6) (x7 := x7) (x8 := x8) (x9 := x9) (x10 := x10) (x11 := x11) (x12 := x12) (x13 := x13) (x14 := x14) (x15 := x15) (x16 := x16) (x17 := x17) (x18 := x18) (x19 := x19) (x20 := x20) (x21 := x21) (x22 := x22) (x23 := x23) hs
      exact ⟨_, _, rfl, .inl e, s', ys, rfl, hs', hy⟩
  subst hρ
  have e2 : F_law_f5 (.fz (.scr (Ints ns)) :: v.sl :: List.replicate 22 .un) = some (.nx, .fz (.scr (Ints ns)) :: s :: xs) := by
    unfold F_law_f5 sFor
    have e0 : iRange1 (eC (.int 4)) (.fz (.scr (Ints ns)) :: v.sl :: List.replicate 22 .un) = some (rangeP 0 4, [], .fz (.scr (Ints ns)) :: v.sl :: List.replicate 22 .un) := rfl
    rw [e0, Option.bind_some]
    exact e
  have e1 : (sSet 1 (eCall F__law_hand (aCons (eVar 0) aNil))) (.fz (.scr (Ints ns)) :: List.replicate 23 .un) = some (.nx, .fz (.scr (Ints ns)) :: v.sl :: List.replicate 22 .un) := by
    cases v <;> simp [sSet, eCall, aCons, aNil, eVar, tmpOf, hand_is, ev, toVl, Vl.sl, putB, List.replicate] at hv ⊢
  refine ⟨finP [false] (prepP [false] [.fz (.scr (Ints ns))]) (.fz (.scr (Ints ns)) :: s :: xs), ?_⟩
  unfold F_law fnF
  have ep : prepP [false] [.fz (.scr (Ints ns))] ++ List.replicate (24 - [false].length) Sl.un = .fz (.scr (Ints ns)) :: List.replicate 23 .un := rfl
  rw [ep, seq_nx e1, seq_nx e2]
  have e3 : sRet (eC (.bl true)) (.fz (.scr (Ints ns)) :: s :: xs) = some (.rt (.fz (.bl true)), .fz (.scr (Ints ns)) :: s :: xs) := by simp [sRet, eC, toVl]
  rw [e3, Option.bind_some]
end Wk42
open PySem PySem.W PyProof.Rows in
set_option maxRecDepth 100000 in
set_option maxHeartbeats 0 in
theorem PySem.Challenge.cw_latersums_k42_whole_one_line_of_waiting_holds : PySem.Challenge.rw_latersums_k42_whole_one_line_of_waiting.Holds := by
  w_on; o_law; k_head; (case hw => w_witness2)
  k_fill
  refine L2.walk_of (l := PySem.Challenge.rw_latersums_k42_whole_one_line_of_waiting) (n := 63) (k := 10) (x := "script") (CX := fun _ => L2.CX0) (sp := fun w => PL.spEnd _) rfl (by decide) rfl ⟨rfl, by decide, by decide⟩ (fun w h Y => PySem.W.kIn_of Y) ?F (fun _ _ a ns hl _ hS => ⟨a, ns, rfl, hS, hl, fun _ => rfl⟩) (fun _ _ _ _ _ h => h)
  case F =>
    intro w mg fa h KX G hmg
    refine' Wk42.all_mk (fun ns _ => Wk42.law_true ns) KX G hmg ?a0 ?l0 ?c0 ?k0 ?a1 ?l1 ?c1 ?k1 ?a2 ?l2 ?c2 ?k2 ?a3 ?l3 ?c3 ?k3 ?a4 ?l4 ?c4 ?k4 ?a5 ?l5 ?c5 ?k5 ?a6 ?l6 ?c6 ?k6 ?a7 ?l7 ?c7 ?k7 ?a8 ?l8 ?c8 ?k8 ?a9 ?l9 ?c9 ?k9 ?a10 ?l10 ?c10 ?k10 ?a11 ?l11 ?c11 ?k11 ?a12 ?l12 ?c12 ?k12 ?a13 ?l13 ?c13 ?k13 ?a14 ?l14 ?c14 ?k14 ?a15 ?l15 ?c15 ?k15 ?a16 ?l16 ?c16 ?k16 ?a17 ?l17 ?c17 ?k17 ?a18 ?l18 ?c18 ?k18 ?z_abs ?z_all ?z_any ?z_bool ?z_int ?z_isinstance ?z_len ?z_list ?z_max ?z_range ?z_str ?z_sum ?z_tuple ?z_zip ?z_MOST_PEOPLE ?z_MOST_TIME
    (case a0 => k_is)
    (case l0 => k_is)
    (case c0 => k_is)
    (case k0 => k_is)
    (case a1 => k_is)
    (case l1 => k_is)
    (case c1 => k_is)
    (case k1 => k_is)
    (case a2 => k_is)
    (case l2 => k_is)
    (case c2 => k_is)
    (case k2 => k_is)
    (case a3 => k_is)
    (case l3 => k_is)
    (case c3 => k_is)
    (case k3 => k_is)
    (case a4 => k_is)
    (case l4 => k_is)
    (case c4 => k_is)
    (case k4 => k_is)
    (case a5 => k_is)
    (case l5 => k_is)
    (case c5 => k_is)
    (case k5 => k_is)
    (case a6 => k_is)
    (case l6 => k_is)
    (case c6 => k_is)
    (case k6 => k_is)
    (case a7 => k_is)
    (case l7 => k_is)
    (case c7 => k_is)
    (case k7 => k_is)
    (case a8 => k_is)
    (case l8 => k_is)
    (case c8 => k_is)
    (case k8 => k_is)
    (case a9 => k_is)
    (case l9 => k_is)
    (case c9 => k_is)
    (case k9 => k_is)
    (case a10 => k_is)
    (case l10 => k_is)
    (case c10 => k_is)
    (case k10 => k_is)
    (case a11 => k_is)
    (case l11 => k_is)
    (case c11 => k_is)
    (case k11 => k_is)
    (case a12 => k_is)
    (case l12 => k_is)
    (case c12 => k_is)
    (case k12 => k_is)
    (case a13 => k_is)
    (case l13 => k_is)
    (case c13 => k_is)
    (case k13 => k_is)
    (case a14 => k_is)
    (case l14 => k_is)
    (case c14 => k_is)
    (case k14 => k_is)
    (case a15 => k_is)
    (case l15 => k_is)
    (case c15 => k_is)
    (case k15 => k_is)
    (case a16 => k_is)
    (case l16 => k_is)
    (case c16 => k_is)
    (case k16 => k_is)
    (case a17 => k_is)
    (case l17 => k_is)
    (case c17 => k_is)
    (case k17 => k_is)
    (case a18 => k_is)
    (case l18 => k_is)
    (case c18 => k_is)
    (case k18 => k_is)
    (case z_abs => k_is)
    (case z_all => k_is)
    (case z_any => k_is)
    (case z_bool => k_is)
    (case z_int => k_is)
    (case z_isinstance => k_is)
    (case z_len => k_is)
    (case z_list => k_is)
    (case z_max => k_is)
    (case z_range => k_is)
    (case z_str => k_is)
    (case z_sum => k_is)
    (case z_tuple => k_is)
    (case z_zip => k_is)
    (case z_MOST_PEOPLE => k_is)
    (case z_MOST_TIME => k_is)

