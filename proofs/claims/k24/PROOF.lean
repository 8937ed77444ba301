import PyProof.Rows.All
import Wide.All
import OpenK.AllK
import Wide.FinOn
import HandS.Comp
import HandS.Conv
import HandS.Deep
import HandS.Flow
import HandS.ForMost
import HandS.IsInst
import HandS.Style
import HandS.Text
import HandS.TupAny
import HandS.TupLe
import HandS.TupMul
import HandS.Walk
import HandS.Wide
import KE.GoesEnum
import KE.KDictZip
import PySem.Challenge.RW_latersums_k24_whole_rows_common_to_two_s
set_option Elab.async false
set_option linter.all false
set_option maxRecDepth 100000
set_option maxHeartbeats 4000000
/-! PLa: plain values, what stands for them in the heap, the bag of contents. -/
namespace PL
open PySem PySem.Spec PyProof.Rows L2

/-- the built-in classes that a text names -/
inductive Ty where
  | non | bool | int | str | tuple | list | dict | set
  deriving DecidableEq
def Ty.nm : Ty → String
  | .non => "NoneType" | .bool => "bool" | .int => "int" | .str => "str" | .tuple => "tuple" | .list => "list" | .dict => "dict" | .set => "set"
/-- a plain value -/
inductive PV where
  | non | bl (b : Bool) | int (i : Int) | str (x : Str)
  | tup (xs : List PV) | lst (xs : List PV) | scr (xs : List PV)
  | ins (c : Nat) (xs : List PV)
  | ty (t : Ty) | cls (c : Nat)

/-- what the text says of classes: their addresses, their attributes in order -/
structure RE where
  K : PySem.W.Frag
  cl : Nat → Addr
  fl : Nat → List Str

/-- a tuple that is tracked, or one of the module's -/
def TupAt (K : PySem.W.Frag) (F : Hp) (a : Addr) (vs : List V) : Prop :=
  F a = some (.tup vs) ∨ ∃ (o : Obj) (its : Array Value) (n : Nat), K.lookup a = some o ∧ o.cls = .type "tuple" ∧ o.data = .seq its n ∧ its.size ≤ sizeLine ∧ Vals vs its.toList
theorem TupAt.sq {K : PySem.W.Frag} {F : Hp} {a : Addr} {vs : List V} (h : TupAt K F a vs) : SqT K F a vs := by
  rcases h with h | h
  · exact SqT.of h
  · exact .inr h
mutual
inductive Rp (R : RE) (F : Hp) : PV → V → Prop
  | non : Rp R F .non .non
  | bl (b : Bool) : Rp R F (.bl b) (.bl b)
  | int (i : Int) : Rp R F (.int i) (.int i)
  | str (x : Str) : Rp R F (.str x) (.str x)
  | tup {a : Addr} {xs : List PV} {vs : List V} : TupAt R.K F a vs → RpL R F xs vs → Rp R F (.tup xs) (.ref a)
  | lst {a : Addr} {xs : List PV} {vs : List V} : F a = some (.lst vs) → RpL R F xs vs → Rp R F (.lst xs) (.ref a)
  | scr {a : Addr} {xs : List PV} {vs : List V} : SqL R.K F a vs → RpL R F xs vs → Rp R F (.scr xs) (.ref a)
  | ins {a dx : Addr} {c : Nat} {xs : List PV} {vs : List V} : F a = some (.ins (R.cl c) dx ((R.fl c).zip vs)) → vs.length = (R.fl c).length → RpL R F xs vs → Rp R F (.ins c xs) (.ref a)
  | ty (t : Ty) : Rp R F (.ty t) (.ty t.nm)
  | cls (c : Nat) : Rp R F (.cls c) (.ref (R.cl c))
inductive RpL (R : RE) (F : Hp) : List PV → List V → Prop
  | nil : RpL R F [] []
  | cons {p : PV} {ps : List PV} {v : V} {vs : List V} : Rp R F p v → RpL R F ps vs → RpL R F (p :: ps) (v :: vs)
end

/-- the one heap within the other -/
def Sub (F G : Hp) : Prop := ∀ a o, F a = some o → G a = some o
theorem Sub.refl {F : Hp} : Sub F F := fun _ _ h => h
theorem Sub.trans {F G J : Hp} (h : Sub F G) (h2 : Sub G J) : Sub F J := fun a o e => h2 a o (h a o e)
theorem Sub.rd {F G : Hp} (h : Sub F G) {a : Addr} {u : HO} (r : Rd F a u) : Rd G a u := by
  rcases r with r | ⟨o, r⟩
  · exact .inl (h _ _ r)
  · exact .inr ⟨o, h _ _ r⟩
theorem Sub.sqL {F G : Hp} (h : Sub F G) {K : PySem.W.Frag} {a : Addr} {vs : List V} (r : SqL K F a vs) : SqL K G a vs := by
  rcases r with r | r
  · exact .inl (h.rd r)
  · exact .inr r
theorem Sub.sqT {F G : Hp} (h : Sub F G) {K : PySem.W.Frag} {a : Addr} {vs : List V} (r : SqT K F a vs) : SqT K G a vs := by
  rcases r with r | r
  · exact .inl (h.rd r)
  · exact .inr r
theorem Sub.tupAt {F G : Hp} (h : Sub F G) {K : PySem.W.Frag} {a : Addr} {vs : List V} (r : TupAt K F a vs) : TupAt K G a vs := by
  rcases r with r | r
  · exact .inl (h _ _ r)
  · exact .inr r
mutual
theorem Rp.mono {R : RE} {F G : Hp} (h : Sub F G) : ∀ {p : PV} {x : V}, Rp R F p x → Rp R G p x
  | _, _, .non => .non
  | _, _, .bl b => .bl b
  | _, _, .int i => .int i
  | _, _, .str x => .str x
  | _, _, .tup q r => .tup (h.tupAt q) (RpL.mono h r)
  | _, _, .lst q r => .lst (h _ _ q) (RpL.mono h r)
  | _, _, .scr q r => .scr (h.sqL q) (RpL.mono h r)
  | _, _, .ins q l r => .ins (h _ _ q) l (RpL.mono h r)
  | _, _, .ty t => .ty t
  | _, _, .cls c => .cls c
theorem RpL.mono {R : RE} {F G : Hp} (h : Sub F G) : ∀ {p : List PV} {x : List V}, RpL R F p x → RpL R G p x
  | _, _, .nil => .nil
  | _, _, .cons q r => .cons (Rp.mono h q) (RpL.mono h r)
end
theorem RpL.length {R : RE} {F : Hp} : ∀ {ps : List PV} {vs : List V}, RpL R F ps vs → ps.length = vs.length
  | _, _, .nil => rfl
  | _, _, .cons _ r => congrArg (· + 1) (RpL.length r)
theorem RpL.append {R : RE} {F : Hp} : ∀ {ps qs : List PV} {vs us : List V}, RpL R F ps vs → RpL R F qs us → RpL R F (ps ++ qs) (vs ++ us)
  | _, _, _, _, .nil, s => s
  | _, _, _, _, .cons q r, s => .cons q (RpL.append r s)
theorem RpL.one {R : RE} {F : Hp} {p : PV} {v : V} (h : Rp R F p v) : RpL R F [p] [v] := .cons h .nil
theorem RpL.get {R : RE} {F : Hp} : ∀ {ps : List PV} {vs : List V} {i : Nat} {v : V}, RpL R F ps vs → vs[i]? = some v → ∃ p, ps[i]? = some p ∧ Rp R F p v
  | _, _, i, _, .nil, h => by simp at h
  | _, _, 0, _, .cons q r, h => by simp at h; subst h; exact ⟨_, rfl, q⟩
  | _, _, i + 1, _, .cons q r, h => by
    obtain ⟨p, e, z⟩ := RpL.get (i := i) r (by simpa using h)
    exact ⟨p, by simpa using e, z⟩
theorem RpL.get' {R : RE} {F : Hp} : ∀ {ps : List PV} {vs : List V} {i : Nat} {p : PV}, RpL R F ps vs → ps[i]? = some p → ∃ v, vs[i]? = some v ∧ Rp R F p v
  | _, _, i, _, .nil, h => by simp at h
  | _, _, 0, _, .cons q r, h => by simp at h; subst h; exact ⟨_, rfl, q⟩
  | _, _, i + 1, _, .cons q r, h => by
    obtain ⟨p, e, z⟩ := RpL.get' (i := i) r (by simpa using h)
    exact ⟨p, by simpa using e, z⟩
theorem RpL.set {R : RE} {F : Hp} : ∀ {ps : List PV} {vs : List V} {i : Nat} {p : PV} {v : V}, RpL R F ps vs → Rp R F p v → RpL R F (ps.set i p) (vs.set i v)
  | _, _, _, _, _, .nil, _ => .nil
  | _, _, 0, _, _, .cons q r, h => .cons h r
  | _, _, i + 1, _, _, .cons q r, h => .cons q (RpL.set r h)
theorem RpL.take {R : RE} {F : Hp} : ∀ (n : Nat) {ps : List PV} {vs : List V}, RpL R F ps vs → RpL R F (ps.take n) (vs.take n)
  | 0, _, _, _ => by simp; exact .nil
  | n + 1, _, _, .nil => by simp; exact .nil
  | n + 1, _, _, .cons q r => .cons q (RpL.take n r)
theorem RpL.drop {R : RE} {F : Hp} : ∀ (n : Nat) {ps : List PV} {vs : List V}, RpL R F ps vs → RpL R F (ps.drop n) (vs.drop n)
  | 0, _, _, h => h
  | n + 1, _, _, .nil => by simp; exact .nil
  | n + 1, _, _, .cons q r => RpL.drop n r
theorem RpL.reverse {R : RE} {F : Hp} : ∀ {ps : List PV} {vs : List V}, RpL R F ps vs → RpL R F ps.reverse vs.reverse
  | _, _, .nil => .nil
  | _, _, .cons q r => by rw [List.reverse_cons, List.reverse_cons]; exact (RpL.reverse r).append (.one q)
theorem RpL.rep {R : RE} {F : Hp} {ps : List PV} {vs : List V} (h : RpL R F ps vs) : ∀ k : Nat, RpL R F (List.replicate k ps).flatten (List.replicate k vs).flatten
  | 0 => .nil
  | k + 1 => by
    rw [List.replicate_succ, List.replicate_succ, List.flatten_cons, List.flatten_cons]
    exact h.append (RpL.rep h k)
theorem RpL.ints {R : RE} {F : Hp} : ∀ {ns : List Int} {vs : List V}, RpL R F (ns.map PV.int) vs → vs = ns.map V.int
  | [], _, .nil => rfl
  | n :: ns, _, .cons q r => by cases q; rw [RpL.ints r]; rfl
theorem RpL.bls {R : RE} {F : Hp} : ∀ {ns : List Bool} {vs : List V}, RpL R F (ns.map PV.bl) vs → vs = ns.map V.bl
  | [], _, .nil => rfl
  | n :: ns, _, .cons q r => by cases q; rw [RpL.bls r]; rfl
theorem RpL.of_ints {R : RE} {F : Hp} : ∀ (ns : List Int), RpL R F (ns.map PV.int) (ns.map V.int)
  | [] => .nil
  | n :: ns => .cons (.int n) (RpL.of_ints ns)

/-! ### contents -/
/-- what a slot or a temporary holds: nothing known; a value that stays; a list of one's own; an instance of one's own; lent away; the same as slot i (to be read) -/
inductive Sl where
  | un
  | fz (p : PV)
  | own (xs : List PV)
  | obj (c : Nat) (xs : List PV)
  | moved
  | pk (i : Nat)
  | br (i : Nat) (s : Sl)

def SlR (R : RE) (F H : Hp) : Sl → Option V → Prop
  | .un, _ => True
  | .fz p, o => ∃ x, o = some x ∧ Rp R F p x
  | .own xs, o => ∃ a vs, o = some (.ref a) ∧ F a = none ∧ H a = some (.lst vs) ∧ RpL R F xs vs
  | .obj c xs, o => ∃ a dx vs, o = some (.ref a) ∧ F a = none ∧ H a = some (.ins (R.cl c) dx (((R.fl c).take xs.length).zip vs)) ∧ xs.length ≤ (R.fl c).length ∧ RpL R F xs vs
  | .moved, _ => True
  | .pk _, _ => True
  | .br _ _, _ => True
/-- the own address of a content -/
def adr : Sl → Option V → Option Addr
  | .own _, some (.ref a) => some a
  | .obj _ _, some (.ref a) => some a
  | _, _ => none

abbrev Bg := List (Sl × Option V)
/-- the entry: the heaps there, what was lent -/
structure En where
  H : Hp
  F : Hp
  W : List Addr

structure Bag (R : RE) (e : En) (F H : Hp) (B : Bg) : Prop where
  sub : Sub F H
  all : ∀ (i : Nat) (s : Sl) (o : Option V), B[i]? = some (s, o) → SlR R F H s o
  dis : ∀ (i j : Nat) (s t : Sl) (o u : Option V) (a : Addr), B[i]? = some (s, o) → B[j]? = some (t, u) → adr s o = some a → adr t u = some a → i = j
  fr : ∀ a o, e.H a = some o → a ∉ e.W → H a = some o
  frW : ∀ a ∈ e.W, H a ≠ none
  ow : ∀ (i : Nat) (s : Sl) (o : Option V) (a : Addr), B[i]? = some (s, o) → adr s o = some a → e.H a = none ∨ a ∈ e.W
  hf : ∀ a o, F a = some o → e.F a = some o ∨ e.H a = none ∨ a ∈ e.W
  hf0 : Sub e.F F

theorem SlR.own_of {R : RE} {F H : Hp} {s : Sl} {o : Option V} {a : Addr} (h : SlR R F H s o) (e : adr s o = some a) : F a = none ∧ (∃ u, H a = some u) := by
  cases s with
  | own xs =>
    obtain ⟨b, vs, rfl, h1, h2, _⟩ := h
    cases e
    exact ⟨h1, _, h2⟩
  | obj c xs =>
    obtain ⟨b, dx, vs, rfl, h1, h2, _⟩ := h
    cases e
    exact ⟨h1, _, h2⟩
  | _ => cases e
/-- another heap: what is frozen grows, the own address is as it was -/
theorem SlR.keep {R : RE} {F H F' H' : Hp} {s : Sl} {o : Option V} (h : SlR R F H s o) (hs : Sub F F') (ha : ∀ a, adr s o = some a → F' a = none ∧ H' a = H a) : SlR R F' H' s o := by
  cases s with
  | fz p =>
    obtain ⟨x, e, r⟩ := h
    exact ⟨x, e, r.mono hs⟩
  | own xs =>
    obtain ⟨b, vs, rfl, h1, h2, r⟩ := h
    obtain ⟨q1, q2⟩ := ha b rfl
    exact ⟨b, vs, rfl, q1, q2.trans h2, r.mono hs⟩
  | obj c xs =>
    obtain ⟨b, dx, vs, rfl, h1, h2, l, r⟩ := h
    obtain ⟨q1, q2⟩ := ha b rfl
    exact ⟨b, dx, vs, rfl, q1, q2.trans h2, l, r.mono hs⟩
  | _ => trivial

section
variable {R : RE} {e : En} {F H : Hp} {B : Bg}

theorem Bag.tr (h : Bag R e F H B) {i : Nat} {s : Sl} {o : Option V} {a : Addr} (g : B[i]? = some (s, o)) (q : adr s o = some a) : F a = none ∧ ∃ u, H a = some u := (h.all i s o g).own_of q
/-- an address that is new is nobody's -/
theorem Bag.new (h : Bag R e F H B) {p : Addr} (n : H p = none) : F p = none ∧ (e.H p = none ∨ p ∈ e.W) ∧ p ∉ e.W ∧ e.H p = none := by
  have hw : p ∉ e.W := fun z => h.frW p z n
  have hn : e.H p = none := by
    cases q : e.H p with
    | none => rfl
    | some o => rw [h.fr p o q hw] at n; cases n
  refine ⟨?_, .inl hn, hw, hn⟩
  cases q : F p with
  | none => rfl
  | some o => rw [h.sub p o q] at n; cases n

/-- a content put at place i that owns nothing, or what the old one owned -/
theorem Bag.put (h : Bag R e F H B) {i : Nat} {s t : Sl} {o : Option V} (g : B[i]? = some (s, o)) (ht : SlR R F H t o) (ha : ∀ a, adr t o = some a → adr s o = some a) : Bag R e F H (B.set i (t, o)) := by
  have hi : i < B.length := (List.getElem?_eq_some_iff.mp g).1
  have at_ : ∀ (j : Nat) (u : Sl) (v : Option V), (B.set i (t, o))[j]? = some (u, v) → (j = i ∧ u = t ∧ v = o) ∨ (j ≠ i ∧ B[j]? = some (u, v)) := fun j u v q => by
    by_cases z : i = j
    · subst z
      rw [List.getElem?_set_self hi] at q
      cases q
      exact .inl ⟨rfl, rfl, rfl⟩
    · rw [List.getElem?_set_ne z] at q
      exact .inr ⟨fun y => z y.symm, q⟩
  refine ⟨h.sub, fun j u v q => ?_, fun j k u w v x a q1 q2 a1 a2 => ?_, h.fr, h.frW, fun j u v a q a1 => ?_, h.hf, h.hf0⟩
  · rcases at_ j u v q with ⟨_, rfl, rfl⟩ | ⟨_, q⟩
    · exact ht
    · exact h.all j u v q
  · rcases at_ j u v q1 with ⟨ej, eu, ev⟩ | ⟨n1, q1⟩
    · rcases at_ k w x q2 with ⟨ek, ew, ex⟩ | ⟨n2, q2⟩
      · rw [ej, ek]
      · rw [ej]
        rw [eu, ev] at a1
        exact h.dis i k s w o x a g q2 (ha a a1) a2
    · rcases at_ k w x q2 with ⟨ek, ew, ex⟩ | ⟨n2, q2⟩
      · rw [ek]
        rw [ew, ex] at a2
        exact h.dis j i u s v o a q1 g a1 (ha a a2)
      · exact h.dis j k u w v x a q1 q2 a1 a2
  · rcases at_ j u v q with ⟨rfl, rfl, rfl⟩ | ⟨_, q⟩
    · exact h.ow j s v a g (ha a a1)
    · exact h.ow j u v a q a1

theorem get_app {B : Bg} {p q : Sl × Option V} {i : Nat} (h : (B ++ [p])[i]? = some q) : (i < B.length ∧ B[i]? = some q) ∨ (i = B.length ∧ q = p) := by
  by_cases z : i < B.length
  · rw [List.getElem?_append_left z] at h
    exact .inl ⟨z, h⟩
  · rw [List.getElem?_append_right (by omega)] at h
    by_cases y : i - B.length = 0
    · rw [y] at h
      simp at h
      exact .inr ⟨by omega, h.symm⟩
    · rw [List.getElem?_eq_none (by simp; omega)] at h
      cases h
theorem app_get {B : Bg} {p q : Sl × Option V} {i : Nat} (h : B[i]? = some q) : (B ++ [p])[i]? = some q := by
  rw [List.getElem?_append_left (List.getElem?_eq_some_iff.mp h).1]; exact h
theorem app_last {B : Bg} {p : Sl × Option V} : (B ++ [p])[B.length]? = some p := by
  rw [List.getElem?_append_right (Nat.le_refl _)]; simp

/-- the last one away -/
theorem Bag.pop {p : Sl × Option V} (h : Bag R e F H (B ++ [p])) : Bag R e F H B :=
  ⟨h.sub, fun i s o g => h.all i s o (app_get g), fun i j s t o u a g1 g2 => h.dis i j s t o u a (app_get g1) (app_get g2), h.fr, h.frW, fun i s o a g => h.ow i s o a (app_get g), h.hf, h.hf0⟩
/-- one more that owns nothing -/
theorem Bag.push (h : Bag R e F H B) {s : Sl} {o : Option V} (hs : SlR R F H s o) (n : adr s o = none) : Bag R e F H (B ++ [(s, o)]) := by
  refine ⟨h.sub, fun i t u g => ?_, fun i j t t' u u' a g1 g2 a1 a2 => ?_, h.fr, h.frW, fun i t u a g a1 => ?_, h.hf, h.hf0⟩
  · rcases get_app g with ⟨_, g⟩ | ⟨_, g⟩
    · exact h.all i t u g
    · cases g; exact hs
  · rcases get_app g1 with ⟨_, g1⟩ | ⟨_, g1⟩
    · rcases get_app g2 with ⟨_, g2⟩ | ⟨_, g2⟩
      · exact h.dis i j t t' u u' a g1 g2 a1 a2
      · cases g2; rw [n] at a2; cases a2
    · cases g1; rw [n] at a1; cases a1
  · rcases get_app g with ⟨_, g⟩ | ⟨_, g⟩
    · exact h.ow i t u a g a1
    · cases g; rw [n] at a1; cases a1
theorem Bag.push_fz (h : Bag R e F H B) {p : PV} {x : V} (r : Rp R F p x) : Bag R e F H (B ++ [(.fz p, some x)]) := h.push ⟨x, rfl, r⟩ rfl
theorem Bag.push_un (h : Bag R e F H B) {o : Option V} : Bag R e F H (B ++ [(.un, o)]) := h.push trivial rfl

theorem upd_new {H : Hp} {p a : Addr} {o u : HO} (n : H p = none) (h : H a = some u) : upd H p o a = some u := by
  rw [upd_ne (ne_of_none h n)]; exact h
theorem sub_upd {H : Hp} {p : Addr} {o : HO} (n : H p = none) : Sub H (upd H p o) := fun a u h => upd_new n h
theorem sub_upd2 {F H : Hp} {p : Addr} {o : HO} (h : Sub F H) (n : F p = none) : Sub F (upd H p o) := fun a u q => by
  rw [upd_ne (ne_of_none q n)]; exact h a u q
theorem sub_both {F H : Hp} {p : Addr} {o : HO} (h : Sub F H) : Sub (upd F p o) (upd H p o) := fun a u q => by
  by_cases z : a = p
  · rw [z, upd_same] at q ⊢; exact q
  · rw [upd_ne z] at q ⊢; exact h a u q

/-- a new object laid in the heap, nobody's yet -/
theorem Bag.lay (h : Bag R e F H B) {p : Addr} {o : HO} (n : H p = none) : Bag R e F (upd H p o) B := by
  obtain ⟨n1, _, n3, n4⟩ := h.new n
  refine ⟨sub_upd2 h.sub n1, fun i s u g => (h.all i s u g).keep .refl fun a q => ?_, h.dis, fun a u q w => upd_new n (h.fr a u q w), fun a w z => ?_, h.ow, h.hf, h.hf0⟩
  · obtain ⟨q1, u, q2⟩ := h.tr g q
    exact ⟨q1, by rw [upd_ne (ne_of_none q2 n)]⟩
  · by_cases y : a = p
    · rw [y, upd_same] at z; cases z
    · rw [upd_ne y] at z; exact h.frW a w z
/-- what stands at p (nobody's own) is frozen -/
theorem Bag.ice (h : Bag R e F H B) {p : Addr} {o : HO} (q : H p = some o) (m : ∀ (i : Nat) (s : Sl) (u : Option V), B[i]? = some (s, u) → adr s u ≠ some p) (w : e.H p = none ∨ p ∈ e.W) (n : F p = none) : Bag R e (upd F p o) H B := by
  refine ⟨fun a u z => ?_, fun i s u g => (h.all i s u g).keep (sub_upd n) fun a y => ?_, h.dis, h.fr, h.frW, h.ow, fun a u z => ?_, h.hf0.trans (sub_upd n)⟩
  · by_cases y : a = p
    · rw [y, upd_same] at z; cases z; rw [y]; exact q
    · rw [upd_ne y] at z; exact h.sub a u z
  · obtain ⟨q1, _⟩ := h.tr g y
    exact ⟨by rw [upd_ne (fun z => m i s u g (by rw [y, z]))]; exact q1, rfl⟩
  · by_cases y : a = p
    · exact .inr (y ▸ w)
    · rw [upd_ne y] at z; exact h.hf a u z
/-- a new object that stays as it is -/
theorem Bag.lay_ice (h : Bag R e F H B) {p : Addr} {o : HO} (n : H p = none) : Bag R e (upd F p o) (upd H p o) B := by
  obtain ⟨n1, n2, _, _⟩ := h.new n
  refine (h.lay n).ice upd_same (fun i s u g q => ?_) n2 n1
  obtain ⟨_, v, z⟩ := h.tr g q
  rw [n] at z; cases z
theorem Bag.new_tup (h : Bag R e F H B) {p : Addr} {xs : List PV} {vs : List V} (n : H p = none) (r : RpL R F xs vs) :
    Bag R e (upd F p (.tup vs)) (upd H p (.tup vs)) (B ++ [(.fz (.tup xs), some (.ref p))]) :=
  (h.lay_ice n).push_fz (.tup (.inl upd_same) (r.mono (sub_upd (h.new n).1)))
theorem Bag.new_lst (h : Bag R e F H B) {p : Addr} {xs : List PV} {vs : List V} (n : H p = none) (r : RpL R F xs vs) :
    Bag R e F (upd H p (.lst vs)) (B ++ [(.own xs, some (.ref p))]) := by
  obtain ⟨n1, n2, _, _⟩ := h.new n
  have h2 := h.lay (o := .lst vs) n
  refine ⟨h2.sub, fun i s o g => ?_, fun i j t t' u u' a g1 g2 a1 a2 => ?_, h2.fr, h2.frW, fun i t u a g a1 => ?_, h2.hf, h2.hf0⟩
  · rcases get_app g with ⟨_, g⟩ | ⟨_, g⟩
    · exact h2.all i s o g
    · cases g; exact ⟨p, vs, rfl, n1, upd_same, r⟩
  · rcases get_app g1 with ⟨_, g1⟩ | ⟨l1, g1⟩
    · rcases get_app g2 with ⟨_, g2⟩ | ⟨l2, g2⟩
      · exact h.dis i j t t' u u' a g1 g2 a1 a2
      · cases g2
        obtain ⟨_, v, z⟩ := h.tr g1 a1
        cases a2
        rw [n] at z; cases z
    · rcases get_app g2 with ⟨_, g2⟩ | ⟨l2, g2⟩
      · cases g1
        obtain ⟨_, v, z⟩ := h.tr g2 a2
        cases a1
        rw [n] at z; cases z
      · rw [l1, l2]
  · rcases get_app g with ⟨_, g⟩ | ⟨_, g⟩
    · exact h.ow i t u a g a1
    · cases g; cases a1; exact n2

/-- an own list at place i stays as it is from now on -/
theorem Bag.freeze (h : Bag R e F H B) {i : Nat} {xs : List PV} {o : Option V} (g : B[i]? = some (.own xs, o)) : ∃ F', Sub F F' ∧ Bag R e F' H (B.set i (.fz (.lst xs), o)) := by
  obtain ⟨a, vs, rfl, h1, h2, r⟩ := h.all i _ _ g
  have h3 := h.put g (t := .un) trivial (fun _ z => nomatch z)
  have hi : i < B.length := (List.getElem?_eq_some_iff.mp g).1
  have no : ∀ (j : Nat) (s : Sl) (u : Option V), (B.set i (.un, some (.ref a)))[j]? = some (s, u) → adr s u ≠ some a := fun j s u q z => by
    by_cases y : i = j
    · subst y
      rw [List.getElem?_set_self hi] at q
      cases q; cases z
    · rw [List.getElem?_set_ne y] at q
      exact y (h.dis i j _ s _ u a g q rfl z)
  have h4 := h3.ice h2 no (h.ow i _ _ a g rfl) h1
  refine ⟨upd F a (.lst vs), sub_upd h1, ?_⟩
  have h5 := h4.put (i := i) (s := .un) (o := some (.ref a)) (t := .fz (.lst xs)) (List.getElem?_set_self hi) ⟨_, rfl, .lst upd_same (r.mono (sub_upd h1))⟩ (fun _ z => nomatch z)
  rw [List.set_set] at h5
  exact h5
/-- an own instance that is whole -/
theorem Bag.freezeObj (h : Bag R e F H B) {i c : Nat} {xs : List PV} {o : Option V} (g : B[i]? = some (.obj c xs, o)) (l : xs.length = (R.fl c).length) : ∃ F', Sub F F' ∧ Bag R e F' H (B.set i (.fz (.ins c xs), o)) := by
  obtain ⟨a, dx, vs, rfl, h1, h2, _, r⟩ := h.all i _ _ g
  have h3 := h.put g (t := .un) trivial (fun _ z => nomatch z)
  have hi : i < B.length := (List.getElem?_eq_some_iff.mp g).1
  have no : ∀ (j : Nat) (s : Sl) (u : Option V), (B.set i (.un, some (.ref a)))[j]? = some (s, u) → adr s u ≠ some a := fun j s u q z => by
    by_cases y : i = j
    · subst y
      rw [List.getElem?_set_self hi] at q
      cases q; cases z
    · rw [List.getElem?_set_ne y] at q
      exact y (h.dis i j _ s _ u a g q rfl z)
  have h4 := h3.ice h2 no (h.ow i _ _ a g rfl) h1
  refine ⟨upd F a (.ins (R.cl c) dx (((R.fl c).take xs.length).zip vs)), sub_upd h1, ?_⟩
  have h5 := h4.put (i := i) (s := .un) (o := some (.ref a)) (t := .fz (.ins c xs)) (List.getElem?_set_self hi) ⟨_, rfl, .ins (dx := dx) (vs := vs) (by rw [upd_same, l, List.take_length]) (by rw [← r.length, l]) (r.mono (sub_upd h1))⟩ (fun _ z => nomatch z)
  rw [List.set_set] at h5
  exact h5
/-- the own object at place i is written -/
theorem Bag.write (h : Bag R e F H B) {i : Nat} {s t : Sl} {a : Addr} {o : HO} (g : B[i]? = some (s, some (.ref a))) (q : adr s (some (.ref a)) = some a) (q' : adr t (some (.ref a)) = some a)
    (ht : SlR R F (upd H a o) t (some (.ref a))) : Bag R e F (upd H a o) (B.set i (t, some (.ref a))) := by
  have hi : i < B.length := (List.getElem?_eq_some_iff.mp g).1
  obtain ⟨n1, u0, n2⟩ := h.tr g q
  have at_ : ∀ (j : Nat) (u : Sl) (v : Option V), (B.set i (t, some (.ref a)))[j]? = some (u, v) → (j = i ∧ u = t ∧ v = some (.ref a)) ∨ (j ≠ i ∧ B[j]? = some (u, v)) := fun j u v q => by
    by_cases z : i = j
    · subst z
      rw [List.getElem?_set_self hi] at q
      cases q
      exact .inl ⟨rfl, rfl, rfl⟩
    · rw [List.getElem?_set_ne z] at q
      exact .inr ⟨fun y => z y.symm, q⟩
  refine ⟨sub_upd2 h.sub n1, fun j u v y => ?_, fun j k u w v x b q1 q2 a1 a2 => ?_, fun b u y w => ?_, fun b w z => ?_, fun j u v b y a1 => ?_, h.hf, h.hf0⟩
  · rcases at_ j u v y with ⟨_, rfl, rfl⟩ | ⟨nj, y⟩
    · exact ht
    · refine (h.all j u v y).keep .refl fun b z => ⟨(h.tr y z).1, ?_⟩
      rw [upd_ne]
      intro e1
      rw [e1] at z
      exact nj (h.dis j i u s v _ a y g z q)
  · rcases at_ j u v q1 with ⟨ej, eu, ev⟩ | ⟨n1, q1⟩
    · rcases at_ k w x q2 with ⟨ek, ew, ex⟩ | ⟨n2, q2⟩
      · rw [ej, ek]
      · rw [ej]
        rw [eu, ev, q'] at a1
        cases a1
        exact h.dis i k s w _ x _ g q2 q a2
    · rcases at_ k w x q2 with ⟨ek, ew, ex⟩ | ⟨n2, q2⟩
      · rw [ek]
        rw [ew, ex, q'] at a2
        cases a2
        exact h.dis j i u s v _ _ q1 g a1 q
      · exact h.dis j k u w v x b q1 q2 a1 a2
  · have hb := h.fr b u y w
    by_cases z : b = a
    · subst z
      rcases h.ow i s _ b g q with y' | y'
      · rw [y] at y'; cases y'
      · exact absurd y' w
    · rw [upd_ne z]; exact hb
  · by_cases y : b = a
    · rw [y, upd_same] at z; cases z
    · rw [upd_ne y] at z; exact h.frW b w z
  · rcases at_ j u v y with ⟨ej, eu, ev⟩ | ⟨_, y⟩
    · rw [eu, ev, q'] at a1
      cases a1
      exact h.ow i s _ _ g q
    · exact h.ow j u v b y a1
/-- what lies last is moved to place i, whose old content is given up -/
theorem Bag.move (h : Bag R e F H (B ++ [(t, u)])) {i : Nat} (hi : i < B.length) : Bag R e F H (B.set i (t, u)) := by
  have at_ : ∀ (j : Nat) (x : Sl) (v : Option V), (B.set i (t, u))[j]? = some (x, v) → (j = i ∧ x = t ∧ v = u) ∨ (j ≠ i ∧ B[j]? = some (x, v)) := fun j x v q => by
    by_cases z : i = j
    · subst z
      rw [List.getElem?_set_self hi] at q
      cases q
      exact .inl ⟨rfl, rfl, rfl⟩
    · rw [List.getElem?_set_ne z] at q
      exact .inr ⟨fun y => z y.symm, q⟩
  have gl : (B ++ [(t, u)])[B.length]? = some (t, u) := app_last
  have le : ∀ {j : Nat} {q : Sl × Option V}, B[j]? = some q → j < B.length := fun q => (List.getElem?_eq_some_iff.mp q).1
  refine ⟨h.sub, fun j x v q => ?_, fun j k x y v w a q1 q2 a1 a2 => ?_, h.fr, h.frW, fun j x v a q a1 => ?_, h.hf, h.hf0⟩
  · rcases at_ j x v q with ⟨_, rfl, rfl⟩ | ⟨_, q⟩
    · exact h.all _ _ _ gl
    · exact h.all j x v (app_get q)
  · rcases at_ j x v q1 with ⟨ej, eu, ev⟩ | ⟨n1, q1⟩
    · rcases at_ k y w q2 with ⟨ek, ew, ex⟩ | ⟨n2, q2⟩
      · rw [ej, ek]
      · rw [eu, ev] at a1
        have := h.dis _ k t y u w a gl (app_get q2) a1 a2
        exact absurd (le q2) (by omega)
    · rcases at_ k y w q2 with ⟨ek, ew, ex⟩ | ⟨n2, q2⟩
      · rw [ew, ex] at a2
        have := h.dis j _ x t v u a (app_get q1) gl a1 a2
        exact absurd (le q1) (by omega)
      · exact h.dis j k x y v w a (app_get q1) (app_get q2) a1 a2
  · rcases at_ j x v q with ⟨_, eu, ev⟩ | ⟨_, q⟩
    · rw [eu, ev] at a1
      exact h.ow _ t u a gl a1
    · exact h.ow j x v a (app_get q) a1
end
end PL
set_option Elab.async false
set_option linter.all false
set_option maxRecDepth 100000
set_option maxHeartbeats 4000000
/-! PLb: expressions by plain functions of the slots' contents. -/
namespace PL
open PySem PySem.Spec PyProof.Rows L2

abbrev PF := List Sl → Option (Sl × List Sl)
abbrev PFs := List Sl → Option (List Sl × List Sl)
abbrev PT' := List Sl → Option (Bool × List Sl)

def tmpOf : Sl → Sl
  | .pk _ => .un
  | .br _ s => s
  | s => s
/-- what a content is as a value, to be read -/
def cont (ρ : List Sl) : Sl → Option PV
  | .fz p => some p
  | .own xs => some (.lst xs)
  | .pk i => match ρ[i]? with
    | some (.fz p) => some p
    | some (.own xs) => some (.lst xs)
    | _ => none
  | _ => none
def conts (ρ : List Sl) : List Sl → Option (List PV)
  | [] => some []
  | s :: r => (cont ρ s).bind fun p => (conts ρ r).map fun ps => p :: ps

/-- x is the peeked slot's value -/
def PkOk (r : Sl) (σ : L2.St) (x : V) : Prop := ∀ i, (r = .pk i ∨ ∃ s, r = .br i s) → σ[i]? = some (some x)
theorem pk_fz {p : PV} {σ : L2.St} {x : V} : PkOk (.fz p) σ x := fun i z => by rcases z with z | ⟨_, z⟩ <;> cases z
theorem pk_own {p : List PV} {σ : L2.St} {x : V} : PkOk (.own p) σ x := fun i z => by rcases z with z | ⟨_, z⟩ <;> cases z
theorem pk_obj {c : Nat} {p : List PV} {σ : L2.St} {x : V} : PkOk (.obj c p) σ x := fun i z => by rcases z with z | ⟨_, z⟩ <;> cases z

def TEv (R : RE) (f : PF) : TE := fun σ H Q => ∃ (e : En) (F : Hp) (ρ : List Sl) (tm : Bg) (r : Sl) (ρ' : List Sl), ρ.length = σ.length ∧ Bag R e F H (ρ.zip σ ++ tm) ∧ f ρ = some (r, ρ') ∧
  ∀ x H' F', Bag R e F' H' (ρ'.zip σ ++ tm ++ [(tmpOf r, some x)]) → PkOk r σ x → Q x H'
def TTv (R : RE) (f : PT') : TT := fun σ H Q => ∃ (e : En) (F : Hp) (ρ : List Sl) (tm : Bg) (b : Bool) (ρ' : List Sl), ρ.length = σ.length ∧ Bag R e F H (ρ.zip σ ++ tm) ∧ f ρ = some (b, ρ') ∧
  ∀ H' F', Bag R e F' H' (ρ'.zip σ ++ tm) → Q b H'
def TAv (R : RE) (f : PFs) : TA := fun σ H Q => ∃ (e : En) (F : Hp) (ρ : List Sl) (tm : Bg) (rs : List Sl) (ρ' : List Sl), ρ.length = σ.length ∧ Bag R e F H (ρ.zip σ ++ tm) ∧ f ρ = some (rs, ρ') ∧
  ∀ xs H' F', Bag R e F' H' (ρ'.zip σ ++ tm ++ (rs.map tmpOf).zip (xs.map some)) → Paired (fun r x => PkOk r σ x) rs xs → Q xs H'

structure Ev (X : Cx) (R : RE) (e : Expr) (f : PF) : Prop where
  len : ∀ ρ r ρ', f ρ = some (r, ρ') → ρ'.length = ρ.length
  pe : PE X e (TEv R f)
structure Tv (X : Cx) (R : RE) (e : Expr) (f : PT') : Prop where
  len : ∀ ρ r ρ', f ρ = some (r, ρ') → ρ'.length = ρ.length
  pt : PT X e (TTv R f)
structure Av (X : Cx) (R : RE) (es : List Expr) (f : PFs) : Prop where
  len : ∀ ρ r ρ', f ρ = some (r, ρ') → ρ'.length = ρ.length
  cnt : ∀ ρ r ρ', f ρ = some (r, ρ') → r.length = es.length
  pa : PA X es (TAv R f)

section
variable {X : Cx} {e : Expr} {es : List Expr} {st : Stmt} {sts : List Stmt}
theorem pe_mono {t t' : TE} (h : PE X e t) (m : ∀ σ H Q, t' σ H Q → t σ H Q) : PE X e t' := ⟨fun pins s σ H Q I q => h.run pins s σ H Q I (m σ H Q q)⟩
theorem pt_mono {t t' : TT} (h : PT X e t) (m : ∀ σ H Q, t' σ H Q → t σ H Q) : PT X e t' := ⟨fun pins s σ H Q I q => h.run pins s σ H Q I (m σ H Q q)⟩
theorem pw_mono {t t' : TT} (h : PW X e t) (m : ∀ σ H Q, t' σ H Q → t σ H Q) : PW X e t' := ⟨fun w pins s σ H Q I q => h.run w pins s σ H Q I (m σ H Q q)⟩
theorem pa_mono {t t' : TA} (h : PA X es t) (m : ∀ σ H Q, t' σ H Q → t σ H Q) : PA X es t' := ⟨fun pos pins s σ H Q I q => h.run pos pins s σ H Q I (m σ H Q q)⟩
theorem ps_mono {t t' : TS} (h : PS X st t) (m : ∀ D σ H, t' D σ H → t D σ H) : PS X st t' := ⟨fun pins s σ H D I q => h.run pins s σ H D I (m D σ H q)⟩
theorem pss_mono {t t' : TS} (h : PSs X sts t) (m : ∀ D σ H, t' D σ H → t D σ H) : PSs X sts t' := ⟨fun pins s σ H D I q => h.run pins s σ H D I (m D σ H q)⟩
end

/-- to be read: frozen, or a list of one's own -/
def Rq (R : RE) (F H : Hp) (p : PV) (x : V) : Prop :=
  Rp R F p x ∨ ∃ a vs xs, x = .ref a ∧ p = .lst xs ∧ H a = some (.lst vs) ∧ RpL R F xs vs
theorem Rq.rp {R : RE} {F H : Hp} {p : PV} {x : V} (h : Rq R F H p x) (s : Sub F H) : Rp R H p x := by
  rcases h with h | ⟨a, vs, xs, rfl, rfl, h1, h2⟩
  · exact h.mono s
  · exact .lst h1 (h2.mono s)

section
variable {R : RE} {e : En} {F H : Hp} {B : Bg} {σ : L2.St} {ρ : List Sl} {tm : Bg}

theorem zip_get {ρ : List Sl} {σ : L2.St} {i : Nat} {s : Sl} {o : Option V} (h1 : ρ[i]? = some s) (h2 : σ[i]? = some o) : (ρ.zip σ)[i]? = some (s, o) := by
  rw [List.getElem?_zip_eq_some]; exact ⟨h1, h2⟩
theorem app_get' {B C : Bg} {q : Sl × Option V} {i : Nat} (h : B[i]? = some q) : (B ++ C)[i]? = some q := by
  rw [List.getElem?_append_left (List.getElem?_eq_some_iff.mp h).1]; exact h
theorem app_mid {B C : Bg} {p : Sl × Option V} : (B ++ p :: C)[B.length]? = some p := by
  rw [List.getElem?_append_right (Nat.le_refl _)]; simp

theorem Bag.rq_fz (h : Bag R e F H B) {i : Nat} {p : PV} {x : V} (g : B[i]? = some (.fz p, some x)) : Rq R F H p x := by
  obtain ⟨y, e1, r⟩ := h.all i _ _ g
  cases e1
  exact .inl r
theorem Bag.rq_own (h : Bag R e F H B) {i : Nat} {p : List PV} {x : V} (g : B[i]? = some (.own p, some x)) : Rq R F H (.lst p) x := by
  obtain ⟨a, vs, e1, _, h2, r⟩ := h.all i _ _ g
  cases e1
  exact .inr ⟨a, vs, p, rfl, rfl, h2, r⟩
/-- a temporary's content, read -/
theorem Bag.rq (h : Bag R e F H (ρ.zip σ ++ B)) {j : Nat} {r : Sl} {x : V} {p : PV} (g : (ρ.zip σ ++ B)[j]? = some (tmpOf r, some x)) (k : PkOk r σ x) (c : cont ρ r = some p) : Rq R F H p x := by
  cases r with
  | fz q => cases c; exact h.rq_fz g
  | own q => cases c; exact h.rq_own g
  | pk i =>
    have hs := k i (.inl rfl)
    unfold cont at c
    simp only at c
    split at c
    · rename_i q e1
      cases c
      exact h.rq_fz (app_get' (zip_get e1 hs))
    · rename_i q e1
      cases c
      exact h.rq_own (app_get' (zip_get e1 hs))
    · cases c
  | _ => cases c
theorem Rq.keep {F' H' : Hp} {p : PV} {x : V} (h : Rq R F H p x) (s : Sub F F') (k : ∀ a, x = .ref a → ∀ u, H a = some u → H' a = some u) : Rq R F' H' p x := by
  rcases h with h | ⟨a, vs, xs, rfl, rfl, h1, h2⟩
  · exact .inl (h.mono s)
  · exact .inr ⟨a, vs, xs, rfl, rfl, k a rfl _ h1, h2.mono s⟩
/-- lists and tuples, read -/
theorem Rq.lst {xs : List PV} {x : V} (h : Rq R F H (.lst xs) x) (s : Sub F H) : ∃ a vs, x = .ref a ∧ H a = some (.lst vs) ∧ RpL R F xs vs := by
  rcases h with h | ⟨a, vs, ys, rfl, e1, h1, h2⟩
  · cases h with
    | lst q r => exact ⟨_, _, rfl, s _ _ q, r⟩
  · cases e1
    exact ⟨a, vs, rfl, h1, h2⟩
theorem Rq.scr {xs : List PV} {x : V} (h : Rq R F H (.scr xs) x) (s : Sub F H) : ∃ a vs, x = .ref a ∧ SqL R.K H a vs ∧ RpL R F xs vs := by
  rcases h with h | ⟨a, vs, ys, rfl, e1, h1, h2⟩
  · cases h with
    | scr q r => exact ⟨_, _, rfl, s.sqL q, r⟩
  · cases e1
theorem Rq.tup {xs : List PV} {x : V} (h : Rq R F H (.tup xs) x) (s : Sub F H) : ∃ a vs, x = .ref a ∧ SqT R.K H a vs ∧ RpL R F xs vs := by
  rcases h with h | ⟨a, vs, ys, rfl, e1, h1, h2⟩
  · cases h with
    | tup q r => exact ⟨_, _, rfl, s.sqT q.sq, r⟩
  · cases e1
theorem Rq.int {i : Int} {x : V} (h : Rq R F H (.int i) x) : x = .int i := by
  rcases h with h | ⟨a, vs, ys, rfl, e1, h1, h2⟩
  · cases h; rfl
  · cases e1
theorem Rq.bl {i : Bool} {x : V} (h : Rq R F H (.bl i) x) : x = .bl i := by
  rcases h with h | ⟨a, vs, ys, rfl, e1, h1, h2⟩
  · cases h; rfl
  · cases e1
theorem Rq.str {i : Str} {x : V} (h : Rq R F H (.str i) x) : x = .str i := by
  rcases h with h | ⟨a, vs, ys, rfl, e1, h1, h2⟩
  · cases h; rfl
  · cases e1
theorem Rq.non {x : V} (h : Rq R F H .non x) : x = .non := by
  rcases h with h | ⟨a, vs, ys, rfl, e1, h1, h2⟩
  · cases h; rfl
  · cases e1
theorem Rq.ins {c : Nat} {xs : List PV} {x : V} (h : Rq R F H (.ins c xs) x) : Rp R F (.ins c xs) x := by
  rcases h with h | ⟨a, vs, ys, rfl, e1, h1, h2⟩
  · exact h
  · cases e1

end

/-! ### names and constants -/
/-- a name as a value: an own list is frozen by it -/
def eVar (i : Nat) : PF := fun ρ => match ρ[i]? with
  | some (.fz p) => some (.fz p, ρ)
  | some (.own xs) => some (.fz (.lst xs), ρ.set i (.fz (.lst xs)))
  | _ => none
/-- a name that is only read -/
def ePk (i : Nat) : PF := fun ρ => match ρ[i]? with
  | some (.fz p) => some (.fz p, ρ)
  | some (.own _) => some (.pk i, ρ)
  | _ => none
/-- a name lent to a call -/
def eBor (i : Nat) : PF := fun ρ => match ρ[i]? with
  | some (.fz p) => some (.fz p, ρ)
  | some (.own xs) => some (.br i (.own xs), ρ.set i .moved)
  | some (.obj c xs) => some (.br i (.obj c xs), ρ.set i .moved)
  | _ => none
/-- a name's list given away (it is not used any more) -/
def eMv (i : Nat) : PF := fun ρ => match ρ[i]? with
  | some (.fz p) => some (.fz p, ρ)
  | some (.own xs) => some (.own xs, ρ.set i .moved)
  | _ => none
def eC (p : PV) : PF := fun ρ => some (.fz p, ρ)

section
variable {X : Cx} {R : RE}
theorem zip_set {ρ : List Sl} {σ : L2.St} {i : Nat} {s : Sl} {o : Option V} (h : σ[i]? = some o) : (ρ.set i s).zip σ = (ρ.zip σ).set i (s, o) := by
  apply List.ext_getElem?
  intro j
  by_cases z : i = j
  · subst z
    by_cases hi : i < ρ.length
    · rw [List.getElem?_set_self (by
        rw [List.length_zip]
        have := (List.getElem?_eq_some_iff.mp h).1
        omega)]
      exact zip_get (List.getElem?_set_self hi) h
    · rw [List.getElem?_eq_none (by rw [List.length_zip, List.length_set]; omega), List.getElem?_eq_none (by rw [List.length_set, List.length_zip]; omega)]
  · rw [List.getElem?_set_ne z]
    cases q : (ρ.zip σ)[j]? with
    | none =>
      rw [List.getElem?_eq_none_iff] at q ⊢
      rw [List.length_zip] at q ⊢
      rw [List.length_set]
      exact q
    | some p =>
      obtain ⟨s', o'⟩ := p
      rw [List.getElem?_zip_eq_some] at q ⊢
      rw [List.getElem?_set_ne z]
      exact q
theorem app_set {B C : Bg} {i : Nat} {p : Sl × Option V} (h : i < B.length) : (B ++ C).set i p = B.set i p ++ C := by
  rw [List.set_append_left _ _ h]
theorem zip_lt {ρ : List Sl} {σ : L2.St} {i : Nat} (h1 : i < ρ.length) (h2 : ρ.length = σ.length) : i < (ρ.zip σ).length := by
  rw [List.length_zip]; omega
theorem slot_some {e : En} {F H : Hp} {ρ : List Sl} {σ : L2.St} {tm : Bg} (h : Bag R e F H (ρ.zip σ ++ tm)) (hl : ρ.length = σ.length) {i : Nat} {s : Sl} (g : ρ[i]? = some s) : ∃ o, σ[i]? = some o ∧ (ρ.zip σ ++ tm)[i]? = some (s, o) ∧ SlR R F H s o := by
  have hi := (List.getElem?_eq_some_iff.mp g).1
  have h2 : σ[i]? = some σ[i] := List.getElem?_eq_getElem (by omega)
  exact ⟨_, h2, app_get' (zip_get g h2), h.all i _ _ (app_get' (zip_get g h2))⟩

theorem ev_var {i : Nat} {x : Str} {pos : Pos} (hN : X.N[i]? = some x) (hv : Vis X.env.scope x) (hd : (x == ("__debug__" : Str)) = false := by decide) (hcd : (x == ("__classdict__" : Str)) = false := by decide) : Ev X R (.Name x pos) (eVar i) := by
  refine ⟨fun ρ r ρ' h => ?_, pe_mono (pe_var hN hv hd hcd) fun σ H Q h => ?_⟩
  · unfold eVar at h
    split at h
    · cases h; rfl
    · cases h; rw [List.length_set]
    · cases h
  · obtain ⟨e, F, ρ, tm, r, ρ', hl, hB, hf, k⟩ := h
    unfold eVar at hf
    split at hf
    · rename_i p g
      cases hf
      obtain ⟨o, h2, h3, x, rfl, h4⟩ := slot_some hB hl g
      exact ⟨x, h2, k x H F (hB.push_fz h4) pk_fz⟩
    · rename_i p g
      cases hf
      obtain ⟨o, h2, h3, h4⟩ := slot_some hB hl g
      obtain ⟨a, vs, rfl, h5, h6, h7⟩ := h4
      obtain ⟨F', s, hB'⟩ := hB.freeze h3
      have hi := (List.getElem?_eq_some_iff.mp g).1
      have h8 := hB'.all i _ _ (by rw [List.getElem?_set_self (by
        have := (List.getElem?_eq_some_iff.mp h3).1
        exact this)])
      obtain ⟨y, ey, h9⟩ := h8
      cases ey
      refine ⟨_, h2, k _ H F' ?_ pk_fz⟩
      rw [zip_set h2, ← app_set (zip_lt hi hl)]
      exact hB'.push_fz h9
    · cases hf
theorem ev_pk {i : Nat} {x : Str} {pos : Pos} (hN : X.N[i]? = some x) (hv : Vis X.env.scope x) (hd : (x == ("__debug__" : Str)) = false := by decide) (hcd : (x == ("__classdict__" : Str)) = false := by decide) : Ev X R (.Name x pos) (ePk i) := by
  refine ⟨fun ρ r ρ' h => ?_, pe_mono (pe_var hN hv hd hcd) fun σ H Q h => ?_⟩
  · unfold ePk at h
    split at h <;> cases h <;> rfl
  · obtain ⟨e, F, ρ, tm, r, ρ', hl, hB, hf, k⟩ := h
    unfold ePk at hf
    split at hf
    · rename_i p g
      cases hf
      obtain ⟨o, h2, h3, x, rfl, h4⟩ := slot_some hB hl g
      exact ⟨x, h2, k x H F (hB.push_fz h4) pk_fz⟩
    · rename_i p g
      cases hf
      obtain ⟨o, h2, h3, h4⟩ := slot_some hB hl g
      obtain ⟨a, vs, rfl, h5, h6, h7⟩ := h4
      exact ⟨_, h2, k _ H F hB.push_un fun j z => by rcases z with z | ⟨_, z⟩ <;> cases z; exact h2⟩
    · cases hf
theorem lend {e : En} {F H : Hp} {ρ : List Sl} {σ : L2.St} {tm : Bg} {s : Sl} {o : Option V} {i : Nat} (hB : Bag R e F H (ρ.zip σ ++ tm)) (hl : ρ.length = σ.length) (g : ρ[i]? = some s) (h2 : σ[i]? = some o) : Bag R e F H ((ρ.set i .moved).zip σ ++ tm ++ [(s, o)]) := by
  have hi := (List.getElem?_eq_some_iff.mp g).1
  have h3 : (ρ.zip σ ++ tm)[i]? = some (s, o) := app_get' (zip_get g h2)
  rw [zip_set h2, ← app_set (zip_lt hi hl)]
  have hb := hB.put h3 (t := .moved) trivial (fun _ z => nomatch z)
  -- the content at the end instead
  refine ⟨hB.sub, fun j t u q => ?_, fun j l t t' u u' a q1 q2 a1 a2 => ?_, hB.fr, hB.frW, fun j t u a q a1 => ?_, hB.hf, hB.hf0⟩
  · rcases get_app q with ⟨_, q⟩ | ⟨_, q⟩
    · exact hb.all j t u q
    · cases q; exact hB.all i _ _ h3
  · have nm : ∀ {j : Nat} {t : Sl} {u : Option V} {a : Addr}, ((ρ.zip σ ++ tm).set i (.moved, o))[j]? = some (t, u) → adr t u = some a → j ≠ i ∧ (ρ.zip σ ++ tm)[j]? = some (t, u) := by
      intro j t u a q z
      by_cases y : i = j
      · subst y
        rw [List.getElem?_set_self (List.getElem?_eq_some_iff.mp h3).1] at q
        cases q; cases z
      · rw [List.getElem?_set_ne y] at q
        exact ⟨fun w => y w.symm, q⟩
    rcases get_app q1 with ⟨l1, q1⟩ | ⟨l1, q1⟩
    · obtain ⟨n1, q1⟩ := nm q1 a1
      rcases get_app q2 with ⟨l2, q2⟩ | ⟨l2, q2⟩
      · obtain ⟨n2, q2⟩ := nm q2 a2
        exact hB.dis j l t t' u u' a q1 q2 a1 a2
      · cases q2
        exact absurd (hB.dis j i t s u o a q1 h3 a1 a2) n1
    · cases q1
      rcases get_app q2 with ⟨l2, q2⟩ | ⟨l2, q2⟩
      · obtain ⟨n2, q2⟩ := nm q2 a2
        exact absurd (hB.dis l i t' s u' o a q2 h3 a2 a1) n2
      · rw [l1, l2]
  · rcases get_app q with ⟨_, q⟩ | ⟨_, q⟩
    · exact hb.ow j t u a q a1
    · cases q; exact hB.ow i _ _ a h3 a1
theorem ev_bor {i : Nat} {x : Str} {pos : Pos} (hN : X.N[i]? = some x) (hv : Vis X.env.scope x) (hd : (x == ("__debug__" : Str)) = false := by decide) (hcd : (x == ("__classdict__" : Str)) = false := by decide) : Ev X R (.Name x pos) (eBor i) := by
  refine ⟨fun ρ r ρ' h => ?_, pe_mono (pe_var hN hv hd hcd) fun σ H Q h => ?_⟩
  · unfold eBor at h
    split at h
    · cases h; rfl
    · cases h; rw [List.length_set]
    · cases h; rw [List.length_set]
    · cases h
  · obtain ⟨e, F, ρ, tm, r, ρ', hl, hB, hf, k⟩ := h
    unfold eBor at hf
    split at hf
    · rename_i p g
      cases hf
      obtain ⟨o, h2, h3, x, rfl, h4⟩ := slot_some hB hl g
      exact ⟨x, h2, k x H F (hB.push_fz h4) pk_fz⟩
    · rename_i p g
      cases hf
      obtain ⟨o, h2, h3, h4⟩ := slot_some hB hl g
      obtain ⟨a, vs, rfl, h5, h6, h7⟩ := h4
      exact ⟨_, h2, k _ H F (lend hB hl g h2) fun j z => by rcases z with z | ⟨_, z⟩ <;> cases z; exact h2⟩
    · rename_i c p g
      cases hf
      obtain ⟨o, h2, h3, h4⟩ := slot_some hB hl g
      obtain ⟨a, dx, vs, rfl, h5, h6, h7⟩ := h4
      exact ⟨_, h2, k _ H F (lend hB hl g h2) fun j z => by rcases z with z | ⟨_, z⟩ <;> cases z; exact h2⟩
    · cases hf
theorem ev_mv {i : Nat} {x : Str} {pos : Pos} (hN : X.N[i]? = some x) (hv : Vis X.env.scope x) (hd : (x == ("__debug__" : Str)) = false := by decide) (hcd : (x == ("__classdict__" : Str)) = false := by decide) : Ev X R (.Name x pos) (eMv i) := by
  refine ⟨fun ρ r ρ' h => ?_, pe_mono (pe_var hN hv hd hcd) fun σ H Q h => ?_⟩
  · unfold eMv at h
    split at h
    · cases h; rfl
    · cases h; rw [List.length_set]
    · cases h
  · obtain ⟨e, F, ρ, tm, r, ρ', hl, hB, hf, k⟩ := h
    unfold eMv at hf
    split at hf
    · rename_i p g
      cases hf
      obtain ⟨o, h2, h3, x, rfl, h4⟩ := slot_some hB hl g
      exact ⟨x, h2, k x H F (hB.push_fz h4) pk_fz⟩
    · rename_i p g
      cases hf
      obtain ⟨o, h2, h3, h4⟩ := slot_some hB hl g
      obtain ⟨a, vs, rfl, h5, h6, h7⟩ := h4
      exact ⟨_, h2, k _ H F (lend hB hl g h2) pk_own⟩
    · cases hf
/-- an expression that is a plain constant -/
theorem ev_c {e : Expr} {v : V} {p : PV} (h : PE X e (tC v)) (r : ∀ F, Rp R F p v) : Ev X R e (eC p) := by
  refine ⟨fun ρ r ρ' h => by cases h; rfl, pe_mono h fun σ H Q h => ?_⟩
  obtain ⟨e, F, ρ, tm, r', ρ', hl, hB, hf, k⟩ := h
  cases hf
  exact k v H F (hB.push_fz (r F)) pk_fz
theorem ev_int {i : Int} {j : Nat} {pos : Pos} : Ev X R (.Constant (.int i) j pos) (eC (.int i)) := ev_c pe_int fun F => .int i
theorem ev_bl {i : Bool} {j : Nat} {pos : Pos} : Ev X R (.Constant (.bool i) j pos) (eC (.bl i)) := ev_c pe_bl fun F => .bl i
theorem ev_non {j : Nat} {pos : Pos} : Ev X R (.Constant .none j pos) (eC .non) := ev_c pe_non fun F => .non
theorem ev_str {i : Str} {j : Nat} {pos : Pos} : Ev X R (.Constant (.str i) j pos) (eC (.str i)) := ev_c pe_str fun F => .str i
end
end PL
set_option Elab.async false
set_option linter.all false
set_option maxRecDepth 100000
set_option maxHeartbeats 4000000
/-! PLc: operators. -/
namespace PL
open PySem PySem.Spec PyProof.Rows L2

/-- a new value: one that stays, or a list of one's own -/
inductive Vl where
  | fz (p : PV) | own (xs : List PV)
def Vl.sl : Vl → Sl
  | .fz p => .fz p
  | .own xs => .own xs
theorem tmp_sl (v : Vl) : tmpOf v.sl = v.sl := by cases v <;> rfl
theorem sl_pk (v : Vl) (σ : L2.St) (x : V) : PkOk v.sl σ x := by cases v; exact pk_fz; exact pk_own

def lineN : Nat := 16777216
theorem lineN_eq : lineN = sizeLine := by rw [sizeLine_eq]; rfl

/-! ### two operands -/
def eBin (op : PV → PV → Option Vl) (fa fb : PF) : PF := fun ρ => (fa ρ).bind fun x => (fb x.2).bind fun y => (cont y.2 x.1).bind fun p => (cont y.2 y.1).bind fun q => (op p q).map fun r => (r.sl, y.2)
def BinOk (R : RE) (op : PV → PV → Option Vl) (rd : R2) : Prop := ∀ (e : En) (F H : Hp) (B : Bg) (p q : PV) (x y : V) (r : Vl) (Q : VK), Bag R e F H B → Rq R F H p x → Rq R F H q y → op p q = some r →
  (∀ z H' F', Bag R e F' H' (B ++ [(r.sl, some z)]) → Q z H') → rd x y H Q
theorem BinOk.or {R : RE} {op op' : PV → PV → Option Vl} {rd rd' : R2} (h : BinOk R op rd) (h' : BinOk R op' rd') : BinOk R (fun p q => match op p q with | some r => some r | none => op' p q) (fun x y H Q => rd x y H Q ∨ rd' x y H Q) := by
  intro e F H B p q x y r Q hB hp hq ho k
  dsimp only at ho
  cases e1 : op p q with
  | some r' =>
    rw [e1] at ho
    cases ho
    exact .inl (h e F H B p q x y r Q hB hp hq e1 k)
  | none =>
    rw [e1] at ho
    exact .inr (h' e F H B p q x y r Q hB hp hq ho k)
section
variable {X : Cx} {R : RE} {a b : Expr} {fa fb : PF} {pos : Pos}
theorem eBin_some {op : PV → PV → Option Vl} {ρ ρ' : List Sl} {r : Sl} (h : eBin op fa fb ρ = some (r, ρ')) : ∃ r1 ρ1 r2 p q v, fa ρ = some (r1, ρ1) ∧ fb ρ1 = some (r2, ρ') ∧ cont ρ' r1 = some p ∧ cont ρ' r2 = some q ∧ op p q = some v ∧ r = v.sl := by
  unfold eBin at h
  rw [Option.bind_eq_some_iff] at h
  obtain ⟨⟨r1, ρ1⟩, h1, h⟩ := h
  rw [Option.bind_eq_some_iff] at h
  obtain ⟨⟨r2, ρ2⟩, h2, h⟩ := h
  rw [Option.bind_eq_some_iff] at h
  obtain ⟨p, h3, h⟩ := h
  rw [Option.bind_eq_some_iff] at h
  obtain ⟨q, h4, h⟩ := h
  rw [Option.map_eq_some_iff] at h
  obtain ⟨v, h5, h⟩ := h
  cases h
  exact ⟨r1, ρ1, r2, p, q, v, h1, h2, h3, h4, h5, rfl⟩
theorem bin_len {op : PV → PV → Option Vl} (la : ∀ ρ r ρ', fa ρ = some (r, ρ') → ρ'.length = ρ.length) (lb : ∀ ρ r ρ', fb ρ = some (r, ρ') → ρ'.length = ρ.length) : ∀ ρ r ρ', eBin op fa fb ρ = some (r, ρ') → ρ'.length = ρ.length := fun ρ r ρ' h => by
  obtain ⟨r1, ρ1, r2, p, q, v, h1, h2, _⟩ := eBin_some h
  exact (lb _ _ _ h2).trans (la _ _ _ h1)
/-- the reading of two operands and an operation on their values -/
theorem tOp_of {op : PV → PV → Option Vl} {rd : R2} (ho : BinOk R op rd) (la : ∀ ρ r ρ', fa ρ = some (r, ρ') → ρ'.length = ρ.length) (lb : ∀ ρ r ρ', fb ρ = some (r, ρ') → ρ'.length = ρ.length) (σ : L2.St) (H : Hp) (Q : VK)
    (h : TEv R (eBin op fa fb) σ H Q) : tOp rd (TEv R fa) (TEv R fb) σ H Q := by
  obtain ⟨e, F, ρ, tm, r, ρ', hl, hB, hf, k⟩ := h
  obtain ⟨r1, ρ1, r2, p, q, v, h1, h2, h3, h4, h5, rfl⟩ := eBin_some hf
  have l1 := la _ _ _ h1
  have l2 := lb _ _ _ h2
  refine ⟨e, F, ρ, tm, r1, ρ1, hl, hB, h1, fun x1 H1 F1 B1 k1 => ?_⟩
  rw [List.append_assoc] at B1
  refine ⟨e, F1, ρ1, tm ++ [(tmpOf r1, some x1)], r2, ρ', l1.trans hl, B1, h2, fun x2 H2 F2 B2 k2 => ?_⟩
  have hz : (ρ'.zip σ).length = σ.length := by rw [List.length_zip]; omega
  have g1 : (ρ'.zip σ ++ (tm ++ [(tmpOf r1, some x1)]) ++ [(tmpOf r2, some x2)])[(ρ'.zip σ ++ tm).length]? = some (tmpOf r1, some x1) := by
    rw [← List.append_assoc (ρ'.zip σ), List.append_assoc]; exact app_mid
  have g2 : (ρ'.zip σ ++ (tm ++ [(tmpOf r1, some x1)]) ++ [(tmpOf r2, some x2)])[(ρ'.zip σ ++ (tm ++ [(tmpOf r1, some x1)])).length]? = some (tmpOf r2, some x2) := app_last
  have q1 : Rq R F2 H2 p x1 := by
    rw [List.append_assoc] at B2 g1
    exact B2.rq g1 k1 h3
  have q2 : Rq R F2 H2 q x2 := by
    rw [List.append_assoc] at B2 g2
    exact B2.rq g2 k2 h4
  have B3 : Bag R e F2 H2 (ρ'.zip σ ++ tm) := by
    have B4 := B2.pop
    rw [← List.append_assoc] at B4
    exact B4.pop
  exact ho e F2 H2 _ p q x1 x2 v Q B3 q1 q2 h5 fun z H' F' B' => k z H' F' (by rw [tmp_sl]; exact B') (sl_pk v σ z)
theorem ev_bin {o : Operator} {op : PV → PV → Option Vl} {rd : R2} (hr : OpR X (binaryOp o) rd) (ho : BinOk R op rd) (ha : Ev X R a fa) (hb : Ev X R b fb) : Ev X R (.BinOp a o b pos) (eBin op fa fb) :=
  ⟨bin_len ha.len hb.len, pe_mono (pe_op hr ha.pe hb.pe) (tOp_of ho ha.len hb.len)⟩
theorem ev_cmp {o : CmpOp} {op : PV → PV → Option Vl} {rd : R2} (hr : OpR X (compareOp o) rd) (ho : BinOk R op rd) (ha : Ev X R a fa) (hb : Ev X R b fb) (hm : behindInMarks o b = false) : Ev X R (.Compare a [o] [b] pos) (eBin op fa fb) :=
  ⟨bin_len ha.len hb.len, pe_mono (pe_cmpR hr ha.pe hb.pe hm) (tOp_of ho ha.len hb.len)⟩
/-- a value that is a bool, as a test -/
def tOf (f : PF) : PT' := fun ρ => (f ρ).bind fun x => match x.1 with
  | .fz (.bl b) => some (b, x.2)
  | _ => none
theorem tOf_some {f : PF} {ρ ρ' : List Sl} {b : Bool} (h : tOf f ρ = some (b, ρ')) : f ρ = some (.fz (.bl b), ρ') := by
  unfold tOf at h
  rw [Option.bind_eq_some_iff] at h
  obtain ⟨⟨r, ρ1⟩, h1, h⟩ := h
  cases r with
  | fz p =>
    cases p with
    | bl b' => cases h; exact h1
    | _ => cases h
  | _ => cases h
theorem tTest_of {f : PF} (σ : L2.St) (H : Hp) (Q : Bool → Hp → Prop) (h : TTv R (tOf f) σ H Q) : TEv R f σ H fun x H' => ∃ k, x = .bl k ∧ Q k H' := by
  obtain ⟨e, F, ρ, tm, b, ρ', hl, hB, hf, k⟩ := h
  refine ⟨e, F, ρ, tm, _, ρ', hl, hB, tOf_some hf, fun x H' F' B' _ => ⟨b, ?_, k H' F' B'.pop⟩⟩
  have := B'.rq_fz (x := x) (p := .bl b) app_last
  exact this.bl
theorem tOf_len {f : PF} (l : ∀ ρ r ρ', f ρ = some (r, ρ') → ρ'.length = ρ.length) : ∀ ρ r ρ', tOf f ρ = some (r, ρ') → ρ'.length = ρ.length := fun ρ r ρ' h => l _ _ _ (tOf_some h)
theorem tv_val (h : Ev X R a fa) (he : ∀ whole, isTrue a X.env whole = (do let v ← whole; standAt a.pos; holding [v] (truthy v)) := by intro _; rfl) : Tv X R a (tOf fa) :=
  ⟨tOf_len h.len, pt_mono (pt_val h.pe he) fun σ H Q q => tTest_of σ H Q q⟩
theorem tv_cmp {o : CmpOp} {op : PV → PV → Option Vl} {rd : R2} (hr : OpR X (compareOp o) rd) (ho : BinOk R op rd) (ha : Ev X R a fa) (hb : Ev X R b fb) (hm : behindInMarks o b = false) : Tv X R (.Compare a [o] [b] pos) (tOf (eBin op fa fb)) :=
  ⟨tOf_len (bin_len ha.len hb.len), pt_mono (pt_cmpR hr ha.pe hb.pe hm) fun σ H Q q => tOp_of ho ha.len hb.len σ H _ (tTest_of σ H Q q)⟩
end

/-! ### the operations -/
def opInt (C : Int → Int → Bool) (g : Int → Int → Int) : PV → PV → Option Vl
  | .int i, .int j => if C i j = true then some (.fz (.int (g i j))) else none
  | _, _ => none
def opCmp (g : Int → Int → Bool) : PV → PV → Option Vl
  | .int i, .int j => some (.fz (.bl (g i j)))
  | _, _ => none
theorem bin_int {R : RE} {C : Int → Int → Bool} {D : Int → Int → Prop} {g : Int → Int → Int} (hc : ∀ i j, C i j = true → D i j) : BinOk R (opInt C g) (rI D fun i j => .int (g i j)) := by
  intro e F H B p q x y r Q hB hp hq ho k
  unfold opInt at ho
  split at ho
  · rename_i i j
    split at ho
    · rename_i c
      cases ho
      exact ⟨i, j, hp.int, hq.int, hc i j c, k _ H F (hB.push_fz (.int _))⟩
    · cases ho
  · cases ho
theorem bin_int0 {R : RE} {g : Int → Int → Int} : BinOk R (opInt (fun _ _ => true) g) (rI0 fun i j => .int (g i j)) := by
  intro e F H B p q x y r Q hB hp hq ho k
  unfold opInt at ho
  split at ho
  · rename_i i j
    cases ho
    exact ⟨i, j, hp.int, hq.int, k _ H F (hB.push_fz (.int _))⟩
  · cases ho
theorem bin_cmp {R : RE} {g : Int → Int → Bool} : BinOk R (opCmp g) (rI0 fun i j => .bl (g i j)) := by
  intro e F H B p q x y r Q hB hp hq ho k
  unfold opCmp at ho
  split at ho
  · rename_i i j
    cases ho
    exact ⟨i, j, hp.int, hq.int, k _ H F (hB.push_fz (.bl _))⟩
  · cases ho
def opCatT : PV → PV → Option Vl
  | .tup xs, .tup ys => if xs.length + ys.length ≤ lineN then some (.fz (.tup (xs ++ ys))) else none
  | _, _ => none
def opCatL : PV → PV → Option Vl
  | .lst xs, .lst ys => if xs.length + ys.length ≤ lineN then some (.own (xs ++ ys)) else none
  | _, _ => none
def opCatS : PV → PV → Option Vl
  | .str xs, .str ys => if xs.length + ys.length ≤ lineN then some (.fz (.str (xs ++ ys))) else none
  | _, _ => none
theorem RpL.nil_iff {R : RE} {F : Hp} {ps : List PV} {vs : List V} (h : RpL R F ps vs) : vs = [] ↔ ps = [] := by
  cases h <;> simp
theorem bin_catT {R : RE} : BinOk R opCatT (rCatA R.K) := by
  intro e F H B p q x y r Q hB hp hq ho k
  unfold opCatT at ho
  split at ho
  · rename_i xs ys
    split at ho
    · rename_i c
      cases ho
      have hp' := hp; have hq' := hq
      obtain ⟨a, vs, rfl, h1, r1⟩ := hp.tup hB.sub
      obtain ⟨b, us, rfl, h2, r2⟩ := hq.tup hB.sub
      refine ⟨a, b, vs, us, rfl, rfl, h1, h2, by rw [← r1.length, ← r2.length, ← lineN_eq]; exact c, fun z => ?_, fun z1 z2 => ?_, fun z1 z2 p n => ?_⟩
      · rw [r1.nil_iff] at z
        subst z
        rcases hq' with h | ⟨_, _, _, _, z, _⟩
        · exact k _ H F (hB.push_fz h)
        · cases z
      · rw [r2.nil_iff] at z2
        subst z2
        rcases hp' with h | ⟨_, _, _, _, z, _⟩
        · exact k _ H F (by rw [List.append_nil]; exact hB.push_fz h)
        · cases z
      · exact k _ _ _ (hB.new_tup n (r1.append r2))
    · cases ho
  · cases ho
theorem bin_catL {R : RE} : BinOk R opCatL rCat := by
  intro e F H B p q x y r Q hB hp hq ho k
  unfold opCatL at ho
  split at ho
  · rename_i xs ys
    split at ho
    · rename_i c
      cases ho
      obtain ⟨a, vs, rfl, h1, r1⟩ := hp.lst hB.sub
      obtain ⟨b, us, rfl, h2, r2⟩ := hq.lst hB.sub
      refine ⟨a, b, vs, us, rfl, rfl, h1, h2, by rw [← r1.length, ← r2.length, ← lineN_eq]; exact c, fun p n => k _ _ _ (hB.new_lst n (r1.append r2))⟩
    · cases ho
  · cases ho
theorem bin_catS {R : RE} : BinOk R opCatS (fun x y H Q => ∃ i j, x = .str i ∧ y = .str j ∧ i.length + j.length ≤ sizeLine ∧ Q (.str (i ++ j)) H) := by
  intro e F H B p q x y r Q hB hp hq ho k
  unfold opCatS at ho
  split at ho
  · rename_i xs ys
    split at ho
    · rename_i c
      cases ho
      exact ⟨xs, ys, hp.str, hq.str, by rw [← lineN_eq]; exact c, k _ H F (hB.push_fz (.str _))⟩
    · cases ho
  · cases ho
/-- x + y, whatever they are -/
def opAdd : PV → PV → Option Vl
  | .int i, .int j => some (.fz (.int (i + j)))
  | .tup xs, .tup ys => if xs.length + ys.length ≤ lineN then some (.fz (.tup (xs ++ ys))) else none
  | .lst xs, .lst ys => if xs.length + ys.length ≤ lineN then some (.own (xs ++ ys)) else none
  | .str xs, .str ys => if xs.length + ys.length ≤ lineN then some (.fz (.str (xs ++ ys))) else none
  | _, _ => none
theorem BinOk.imp {R : RE} {op op' : PV → PV → Option Vl} {rd : R2} (h : BinOk R op rd) (i : ∀ p q r, op' p q = some r → op p q = some r) : BinOk R op' rd := by
  intro e F H B p q x y r Q hB hp hq ho k
  exact h e F H B p q x y r Q hB hp hq (i p q r ho) k
theorem opr_add {X : Cx} : OpR X (binaryOp .Add) (fun x y H Q => rI0 (fun i j => .int (i + j)) x y H Q ∨ (rCatA X.K x y H Q ∨ (rCat x y H Q ∨ ∃ i j, x = .str i ∧ y = .str j ∧ i.length + j.length ≤ sizeLine ∧ Q (.str (i ++ j)) H))) :=
  op_add.or (op_catA.or (op_cat.or op_add_str))
theorem bin_add {R : RE} : BinOk R opAdd (fun x y H Q => rI0 (fun i j => .int (i + j)) x y H Q ∨ (rCatA R.K x y H Q ∨ (rCat x y H Q ∨ ∃ i j, x = .str i ∧ y = .str j ∧ i.length + j.length ≤ sizeLine ∧ Q (.str (i ++ j)) H))) := by
  refine (bin_int0 (g := fun i j => i + j).or (bin_catT.or (bin_catL.or bin_catS))).imp fun p q r h => ?_
  unfold opAdd at h
  split at h
  · exact h
  all_goals first
    | cases h
    | (split at h
       · rename_i c
         simp only [opInt, opCatT, opCatL, opCatS, if_pos c]
         exact h
       · cases h)
theorem ev_add {X : Cx} {R : RE} (hK : R.K = X.K) {a b : Expr} {fa fb : PF} {pos : Pos} (ha : Ev X R a fa) (hb : Ev X R b fb) : Ev X R (.BinOp a .Add b pos) (eBin opAdd fa fb) :=
  ev_bin (by rw [hK]; exact opr_add) bin_add ha hb
def opSub : PV → PV → Option Vl
  | .int i, .int j => some (.fz (.int (i - j)))
  | _, _ => none
theorem ev_sub {X : Cx} {R : RE} {a b : Expr} {fa fb : PF} {pos : Pos} (ha : Ev X R a fa) (hb : Ev X R b fb) : Ev X R (.BinOp a .Sub b pos) (eBin opSub fa fb) :=
  ev_bin op_sub ((bin_int0 (g := fun i j => i - j)).imp fun p q r h => by unfold opSub at h; split at h <;> first | exact h | cases h) ha hb
/-- products: of ints one of which is small, or both not too great; of a list and an int, a tuple and an int -/
def mulOk (i j : Int) : Bool := decide (-(2 ^ 64) < i ∧ i < 2 ^ 64) || decide (-(2 ^ 64) < j ∧ j < 2 ^ 64) || decide (i.natAbs.log2 + j.natAbs.log2 < 1000000)
def opMul : PV → PV → Option Vl
  | .int i, .int j => if mulOk i j = true then some (.fz (.int (i * j))) else none
  | .lst xs, .int k => if k < 2 ^ 63 ∧ -(2 ^ 63) ≤ k ∧ xs.length * k.toNat ≤ lineN then some (.own (List.replicate k.toNat xs).flatten) else none
  | .tup xs, .int k => if 2 ≤ k ∧ k ≤ 1000 ∧ xs.length ≤ 1000 ∧ xs.isEmpty = false then some (.fz (.tup (List.replicate k.toNat xs).flatten)) else none
  | _, _ => none
theorem opr_mul {X : Cx} : OpR X (binaryOp .Mult) (fun x y H Q => rI CMul (fun i j => .int (i * j)) x y H Q ∨ (rI CMulW (fun i j => .int (i * j)) x y H Q ∨ (rRep x y H Q ∨ rRepT X.K x y H Q))) := op_mul.or (op_mulW.or (op_rep.or op_repT))
theorem bin_mul {R : RE} : BinOk R opMul (fun x y H Q => rI CMul (fun i j => .int (i * j)) x y H Q ∨ (rI CMulW (fun i j => .int (i * j)) x y H Q ∨ (rRep x y H Q ∨ rRepT R.K x y H Q))) := by
  intro e F H B p q x y r Q hB hp hq ho k
  unfold opMul at ho
  split at ho
  · rename_i i j
    split at ho
    · rename_i c
      cases ho
      have fin : Q (.int (i * j)) H := k _ H F (hB.push_fz (.int _))
      unfold mulOk at c
      simp only [Bool.or_eq_true, decide_eq_true_eq] at c
      rcases c with (c | c) | c
      · exact .inl ⟨i, j, hp.int, hq.int, .inl c, fin⟩
      · exact .inl ⟨i, j, hp.int, hq.int, .inr c, fin⟩
      · exact .inr (.inl ⟨i, j, hp.int, hq.int, c, fin⟩)
    · cases ho
  · rename_i xs j
    split at ho
    · rename_i c
      cases ho
      obtain ⟨a, vs, rfl, h1, r1⟩ := hp.lst hB.sub
      exact .inr (.inr (.inl ⟨a, j, vs, rfl, hq.int, h1, c.2.1, c.1, by rw [← r1.length, ← lineN_eq]; exact c.2.2, fun p n => k _ _ _ (hB.new_lst n (r1.rep _))⟩))
    · cases ho
  · rename_i xs j
    split at ho
    · rename_i c
      cases ho
      obtain ⟨a, vs, rfl, h1, r1⟩ := hp.tup hB.sub
      exact .inr (.inr (.inr ⟨a, j, vs, rfl, hq.int, h1, (fun z => by rw [r1.nil_iff] at z; rw [z] at c; cases c.2.2.2), c.1, c.2.1, by rw [← r1.length]; exact c.2.2.1, fun p n => k _ _ _ (hB.new_tup n (r1.rep _))⟩))
    · cases ho
  · cases ho
theorem ev_mul {X : Cx} {R : RE} (hK : R.K = X.K) {a b : Expr} {fa fb : PF} {pos : Pos} (ha : Ev X R a fa) (hb : Ev X R b fb) : Ev X R (.BinOp a .Mult b pos) (eBin opMul fa fb) :=
  ev_bin (by rw [hK]; exact opr_mul) bin_mul ha hb
def opMod : PV → PV → Option Vl
  | .int i, .int j => if 0 < j then some (.fz (.int (i % j))) else none
  | _, _ => none
theorem ev_mod {X : Cx} {R : RE} {a b : Expr} {fa fb : PF} {pos : Pos} (ha : Ev X R a fa) (hb : Ev X R b fb) : Ev X R (.BinOp a .Mod b pos) (eBin opMod fa fb) :=
  ev_bin op_mod ((bin_int (C := fun _ j => decide (0 < j)) (D := fun _ j => 0 < j) (g := fun i j => i % j) fun i j c => of_decide_eq_true c).imp fun p q r h => by
    unfold opMod at h
    split at h
    · split at h
      · rename_i c; simp only [opInt, decide_eq_true c]; exact h
      · cases h
    · cases h) ha hb
def opFdiv : PV → PV → Option Vl
  | .int i, .int j => if 0 < j ∧ j.natAbs.log2 < 9000 then some (.fz (.int (i / j))) else none
  | _, _ => none
theorem ev_fdiv {X : Cx} {R : RE} {a b : Expr} {fa fb : PF} {pos : Pos} (ha : Ev X R a fa) (hb : Ev X R b fb) : Ev X R (.BinOp a .FloorDiv b pos) (eBin opFdiv fa fb) :=
  ev_bin op_fdivW ((bin_int (C := fun _ j => decide (0 < j ∧ j.natAbs.log2 < 9000)) (D := CDivW) (g := fun i j => i / j) fun i j c => show 0 < j ∧ j.natAbs.log2 < 9000 from of_decide_eq_true c).imp fun p q r h => by
    unfold opFdiv at h
    split at h
    · split at h
      · rename_i c; simp only [opInt, decide_eq_true c]; exact h
      · cases h
    · cases h) ha hb
def opPow : PV → PV → Option Vl
  | .int i, .int j => if 0 ≤ j ∧ j ≤ 1000000 ∧ i.natAbs < 2 ^ 64 then some (.fz (.int (i ^ j.toNat))) else none
  | _, _ => none
theorem ev_pow {X : Cx} {R : RE} {a b : Expr} {fa fb : PF} {pos : Pos} (ha : Ev X R a fa) (hb : Ev X R b fb) : Ev X R (.BinOp a .Pow b pos) (eBin opPow fa fb) :=
  ev_bin op_pow ((bin_int (C := fun i j => decide (0 ≤ j ∧ j ≤ 1000000 ∧ i.natAbs < 2 ^ 64)) (D := CPow) (g := fun i j => i ^ j.toNat) fun i j c => show 0 ≤ j ∧ j ≤ 1000000 ∧ i.natAbs < 2 ^ 64 from of_decide_eq_true c).imp fun p q r h => by
    unfold opPow at h
    split at h
    · split at h
      · rename_i c; simp only [opInt, decide_eq_true c]; exact h
      · cases h
    · cases h) ha hb

/-! ### == -/
mutual
def toD : PV → PyData
  | .non => .none
  | .bl b => .bool b
  | .int i => .int i
  | .str x => .str x
  | .tup xs => .tuple (toDs xs)
  | .lst xs => .list (toDs xs)
  | .scr xs => .list (toDs xs)
  | .ins _ _ => .none
  | .ty _ => .none
  | .cls _ => .none
def toDs : List PV → List PyData
  | [] => []
  | x :: xs => toD x :: toDs xs
end
mutual
/-- data without instances, no deeper than n -/
def datN : Nat → PV → Bool
  | _, .non => true
  | _, .bl _ => true
  | _, .int _ => true
  | _, .str x => PyData.strOk x
  | n + 1, .tup xs => datNs n xs
  | n + 1, .lst xs => datNs n xs
  | _, _ => false
def datNs : Nat → List PV → Bool
  | _, [] => true
  | n, x :: xs => datN n x && datNs n xs
end
mutual
/-- equal as Python has it -/
def eqP : PV → PV → Bool
  | .non, .non => true
  | .bl a, .bl b => a == b
  | .bl a, .int j => (if a then 1 else 0) == j
  | .int i, .bl b => i == (if b then 1 else 0)
  | .int i, .int j => i == j
  | .str x, .str y => x == y
  | .lst xs, .lst ys => eqPs xs ys
  | .tup xs, .tup ys => eqPs xs ys
  | _, _ => false
def eqPs : List PV → List PV → Bool
  | [], [] => true
  | x :: xs, y :: ys => eqP x y && eqPs xs ys
  | _, _ => false
end
theorem datNs_all (n : Nat) : ∀ xs : List PV, datNs n xs = xs.all (datN n)
  | [] => by simp [datNs]
  | x :: xs => by rw [datNs, datNs_all n xs, List.all_cons]
theorem eqv_mixed : True := trivial
mutual
theorem eqv_toD : ∀ (n m : Nat) (p q : PV), datN n p = true → datN m q = true → PyData.eqv (toD p) (toD q) = eqP p q
  | n, m, .non, q, h, k => by
    cases q <;> first | (simp [datN] at k; done) | rfl | (simp only [toD, PyData.eqv, eqP]; done)
  | n, m, .bl b, q, h, k => by
    cases q <;> first | (simp [datN] at k; done) | rfl | (simp only [toD, PyData.eqv, eqP]; done)
  | n, m, .int i, q, h, k => by
    cases q <;> first | (simp [datN] at k; done) | rfl | (simp only [toD, PyData.eqv, eqP]; done)
  | n, m, .str x, q, h, k => by
    cases q <;> first | (simp [datN] at k; done) | rfl | (simp only [toD, PyData.eqv, eqP]; done)
  | 0, m, .tup xs, q, h, k => by simp [datN] at h
  | 0, m, .lst xs, q, h, k => by simp [datN] at h
  | n + 1, m, .tup xs, q, h, k => by
    cases q with
    | tup ys =>
      cases m with
      | zero => simp [datN] at k
      | succ m =>
        rw [datN] at h k
        rw [toD, toD, PyData.eqv, eqP]
        exact eqv_toDs n m xs ys h k
    | _ => first | (simp [datN] at k; done) | rfl | (simp only [toD, PyData.eqv, eqP]; done)
  | n + 1, m, .lst xs, q, h, k => by
    cases q with
    | lst ys =>
      cases m with
      | zero => simp [datN] at k
      | succ m =>
        rw [datN] at h k
        rw [toD, toD, PyData.eqv, eqP]
        exact eqv_toDs n m xs ys h k
    | _ => first | (simp [datN] at k; done) | rfl | (simp only [toD, PyData.eqv, eqP]; done)
  | n, m, .scr xs, q, h, k => by simp [datN] at h
  | n, m, .ins c xs, q, h, k => by simp [datN] at h
  | n, m, .ty t, q, h, k => by simp [datN] at h
  | n, m, .cls c, q, h, k => by simp [datN] at h
theorem eqv_toDs : ∀ (n m : Nat) (p q : List PV), datNs n p = true → datNs m q = true → PyData.eqvAll (toDs p) (toDs q) = eqPs p q
  | n, m, [], [], h, k => rfl
  | n, m, [], y :: ys, h, k => rfl
  | n, m, x :: xs, [], h, k => rfl
  | n, m, x :: xs, y :: ys, h, k => by
    rw [datNs, Bool.and_eq_true] at h k
    rw [toDs, toDs, PyData.eqvAll, eqPs, eqv_toD n m x y h.1 k.1, eqv_toDs n m xs ys h.2 k.2]
end
mutual
theorem canLay_toD : ∀ (n : Nat) (p : PV), datN n p = true → (toD p).canLay0 = true
  | n, .non, h => by simp only [toD, PyData.canLay0]
  | n, .bl b, h => by simp only [toD, PyData.canLay0]
  | n, .int i, h => by simp only [toD, PyData.canLay0]
  | n, .str x, h => by rw [toD, PyData.canLay0]; rw [datN] at h; exact h
  | 0, .tup xs, h => by simp [datN] at h
  | 0, .lst xs, h => by simp [datN] at h
  | n + 1, .tup xs, h => by rw [datN] at h; rw [toD, PyData.canLay0]; exact canLay_toDs n xs h
  | n + 1, .lst xs, h => by rw [datN] at h; rw [toD, PyData.canLay0]; exact canLay_toDs n xs h
  | n, .scr xs, h => by simp [datN] at h
  | n, .ins c xs, h => by simp [datN] at h
  | n, .ty t, h => by simp [datN] at h
  | n, .cls c, h => by simp [datN] at h
theorem canLay_toDs : ∀ (n : Nat) (p : List PV), datNs n p = true → PyData.canLayAll0 (toDs p) = true
  | n, [], h => by simp only [toDs, PyData.canLayAll0]
  | n, x :: xs, h => by
    rw [datNs, Bool.and_eq_true] at h
    rw [toDs, PyData.canLayAll0, canLay_toD n x h.1, canLay_toDs n xs h.2]; rfl
end
mutual
theorem depth_toD : ∀ (n : Nat) (p : PV), datN n p = true → (toD p).depth ≤ n + 1
  | n, .non, h => by simp only [toD, PyData.depth]; omega
  | n, .bl b, h => by simp only [toD, PyData.depth]; omega
  | n, .int i, h => by simp only [toD, PyData.depth]; omega
  | n, .str x, h => by simp only [toD, PyData.depth]; omega
  | 0, .tup xs, h => by simp [datN] at h
  | 0, .lst xs, h => by simp [datN] at h
  | n + 1, .tup xs, h => by rw [datN] at h; rw [toD, PyData.depth]; have := depth_toDs n xs h; omega
  | n + 1, .lst xs, h => by rw [datN] at h; rw [toD, PyData.depth]; have := depth_toDs n xs h; omega
  | n, .scr xs, h => by simp [datN] at h
  | n, .ins c xs, h => by simp [datN] at h
  | n, .ty t, h => by simp [datN] at h
  | n, .cls c, h => by simp [datN] at h
theorem depth_toDs : ∀ (n : Nat) (p : List PV), datNs n p = true → PyData.depthAll (toDs p) ≤ n + 1
  | n, [], h => by simp only [toDs, PyData.depthAll]; omega
  | n, x :: xs, h => by
    rw [datNs, Bool.and_eq_true] at h
    rw [toDs, PyData.depthAll]
    have h1 := depth_toD n x h.1
    have h2 := depth_toDs n xs h.2
    omega
end
mutual
theorem dp_of {R : RE} {F H : Hp} (s : Sub F H) : ∀ (n : Nat) (p : PV) (x : V), datN n p = true → Rp R F p x → Dp R.K H x (toD p)
  | n, .non, _, h, r => by cases r; exact .non
  | n, .bl b, _, h, r => by cases r; exact .bl b
  | n, .int i, _, h, r => by cases r; exact .int i
  | n, .str x, _, h, r => by cases r; exact .str x
  | 0, .tup xs, _, h, r => by simp [datN] at h
  | 0, .lst xs, _, h, r => by simp [datN] at h
  | n + 1, .tup xs, _, h, r => by
    rw [datN] at h
    cases r with
    | tup q r => rw [toD]; exact .tup (s.sqT q.sq) (dps_of s n xs _ h r)
  | n + 1, .lst xs, _, h, r => by
    rw [datN] at h
    cases r with
    | lst q r => rw [toD]; exact .lst (SqL.of (s _ _ q)) (dps_of s n xs _ h r)
  | n, .scr xs, _, h, r => by simp [datN] at h
  | n, .ins c xs, _, h, r => by simp [datN] at h
  | n, .ty t, _, h, r => by simp [datN] at h
  | n, .cls c, _, h, r => by simp [datN] at h
theorem dps_of {R : RE} {F H : Hp} (s : Sub F H) : ∀ (n : Nat) (p : List PV) (x : List V), datNs n p = true → RpL R F p x → DpAll R.K H x (toDs p)
  | n, [], _, h, r => by cases r; exact .nil
  | n, x :: xs, _, h, r => by
    rw [datNs, Bool.and_eq_true] at h
    cases r with
    | cons q r => exact .cons (dp_of s n x _ h.1 q) (dps_of s n xs _ h.2 r)
end
theorem shaped_toD {p : PV} (h : datN 60 p = true) : SeqAt.shaped (toD p) = true := by
  unfold SeqAt.shaped
  have h1 := depth_toD 60 p h
  rw [canLay_toD 60 p h, decide_eq_true (by omega)]; rfl
theorem Rq.dp {R : RE} {F H : Hp} {p : PV} {x : V} (h : Rq R F H p x) (s : Sub F H) (d : datN 60 p = true) : Dp R.K H x (toD p) := dp_of Sub.refl 60 p x d (h.rp s)

def opEq : PV → PV → Option Vl := fun p q => if datN 60 p = true ∧ datN 60 q = true then some (.fz (.bl (eqP p q))) else none
def opNe : PV → PV → Option Vl := fun p q => if datN 60 p = true ∧ datN 60 q = true then some (.fz (.bl (!eqP p q))) else none
theorem bin_eq {R : RE} : BinOk R opEq (rEqD R.K) := by
  intro e F H B p q x y r Q hB hp hq ho k
  unfold opEq at ho
  split at ho
  · rename_i c
    cases ho
    refine ⟨_, _, hp.dp hB.sub c.1, hq.dp hB.sub c.2, shaped_toD c.1, shaped_toD c.2, ?_⟩
    rw [eqv_toD 60 60 p q c.1 c.2]
    exact k _ H F (hB.push_fz (.bl _))
  · cases ho
theorem bin_ne {R : RE} : BinOk R opNe (rNeD R.K) := by
  intro e F H B p q x y r Q hB hp hq ho k
  unfold opNe at ho
  split at ho
  · rename_i c
    cases ho
    refine ⟨_, _, hp.dp hB.sub c.1, hq.dp hB.sub c.2, shaped_toD c.1, shaped_toD c.2, ?_⟩
    rw [eqv_toD 60 60 p q c.1 c.2]
    exact k _ H F (hB.push_fz (.bl _))
  · cases ho
end PL
set_option Elab.async false
set_option linter.all false
set_option maxRecDepth 100000
set_option maxHeartbeats 4000000
/-! PLd: comparisons, truth, indices, slices, displays, built-in functions. -/
namespace PL
open PySem PySem.Spec PyProof.Rows L2

def opLt : PV → PV → Option Vl := opCmp fun i j => decide (i < j)
def opLe : PV → PV → Option Vl := opCmp fun i j => decide (i ≤ j)
def opGt : PV → PV → Option Vl := opCmp fun i j => decide (j < i)
def opGe : PV → PV → Option Vl := opCmp fun i j => decide (j ≤ i)
theorem bin_lt {R : RE} : BinOk R opLt (rI0 fun i j => .bl (decide (i < j))) := bin_cmp
theorem bin_le {R : RE} : BinOk R opLe (rI0 fun i j => .bl (decide (i ≤ j))) := bin_cmp
theorem bin_gt {R : RE} : BinOk R opGt (rI0 fun i j => .bl (decide (j < i))) := bin_cmp
theorem bin_ge {R : RE} : BinOk R opGe (rI0 fun i j => .bl (decide (j ≤ i))) := bin_cmp
def isNon : PV → Bool
  | .non => true
  | _ => false
theorem Rp.isNon {R : RE} {F : Hp} {p : PV} {x : V} (h : Rp R F p x) : decide (x = .non) = isNon p := by
  cases h <;> simp [PL.isNon]
theorem Rq.isNon {R : RE} {F H : Hp} {p : PV} {x : V} (h : Rq R F H p x) (s : Sub F H) : decide (x = .non) = PL.isNon p := (h.rp s).isNon
def opIs : PV → PV → Option Vl := fun p q => match q with
  | .non => some (.fz (.bl (isNon p)))
  | _ => none
def opIsNot : PV → PV → Option Vl := fun p q => match q with
  | .non => some (.fz (.bl (!isNon p)))
  | _ => none
theorem bin_is {R : RE} : BinOk R opIs (fun x y H Q => y = .non ∧ Q (.bl (decide (x = .non))) H) := by
  intro e F H B p q x y r Q hB hp hq ho k
  unfold opIs at ho
  split at ho
  · cases ho
    exact ⟨hq.non, k _ H F (by rw [hp.isNon hB.sub]; exact hB.push_fz (.bl _))⟩
  · cases ho
theorem bin_isNot {R : RE} : BinOk R opIsNot (fun x y H Q => y = .non ∧ Q (.bl (!decide (x = .non))) H) := by
  intro e F H B p q x y r Q hB hp hq ho k
  unfold opIsNot at ho
  split at ho
  · cases ho
    exact ⟨hq.non, k _ H F (by rw [hp.isNon hB.sub]; exact hB.push_fz (.bl _))⟩
  · cases ho
/-- flat values -/
def flatP : PV → Bool
  | .non => true
  | .bl _ => true
  | .int _ => true
  | .str _ => true
  | _ => false
theorem flat_rp {R : RE} {F : Hp} {p : PV} {x : V} (h : Rp R F p x) (f : flatP p = true) : flatV x = true := by
  cases h <;> first | rfl | cases f
theorem eqV_rp {R : RE} {F : Hp} {p q : PV} {x y : V} (h : Rp R F p x) (k : Rp R F q y) (f : flatP p = true) (g : flatP q = true) : eqV x y = eqP p q := by
  cases h <;> first
    | exact absurd f Bool.false_ne_true
    | (cases k <;> first | exact absurd g Bool.false_ne_true | rfl | (simp only [eqV, eqP]))
theorem flat_rpl {R : RE} {F : Hp} : ∀ {ps : List PV} {xs : List V}, RpL R F ps xs → ps.all flatP = true → xs.all flatV = true
  | _, _, .nil, _ => rfl
  | _, _, .cons q r, h => by
    rw [List.all_cons, Bool.and_eq_true] at h ⊢
    exact ⟨flat_rp q h.1, flat_rpl r h.2⟩
theorem inV_rpl {R : RE} {F : Hp} {p : PV} {x : V} (hp : Rp R F p x) (f : flatP p = true) : ∀ {ps : List PV} {xs : List V}, RpL R F ps xs → ps.all flatP = true → (xs.any fun y => eqV y x) = ps.any fun z => eqP z p
  | _, _, .nil, _ => rfl
  | _, _, .cons q r, h => by
    rw [List.all_cons, Bool.and_eq_true] at h
    rw [List.any_cons, List.any_cons, eqV_rp q hp h.1 f, inV_rpl hp f r h.2]
theorem any_toDs (n : Nat) (p : PV) (hp : datN n p = true) : ∀ (m : Nat) (qs : List PV), datNs m qs = true → ((toDs qs).any fun z => PyData.eqv z (toD p)) = qs.any fun z => eqP z p
  | m, [], _ => rfl
  | m, q :: qs, h => by
    rw [datNs, Bool.and_eq_true] at h
    rw [toDs, List.any_cons, List.any_cons, eqv_toD m n q p h.1 hp, any_toDs n p hp m qs h.2]
def inP (p q : PV) : Option Bool := match q with
  | .lst qs => if datN 60 p = true ∧ datNs 59 qs = true then some (qs.any fun z => eqP z p) else none
  | .tup qs => if flatP p = true ∧ qs.all flatP = true then some (qs.any fun z => eqP z p) else none
  | _ => none
def opIn : PV → PV → Option Vl := fun p q => (inP p q).map fun b => .fz (.bl b)
def opNotIn : PV → PV → Option Vl := fun p q => (inP p q).map fun b => .fz (.bl (!b))
theorem bin_in {R : RE} : BinOk R opIn (fun x y H Q => rInD R.K x y H Q ∨ rIn R.K false x y H Q) := by
  intro e F H B p q x y r Q hB hp hq ho k
  unfold opIn at ho
  rw [Option.map_eq_some_iff] at ho
  obtain ⟨b, hb, rfl⟩ := ho
  unfold inP at hb
  split at hb
  · rename_i qs
    split at hb
    · rename_i c
      cases hb
      have d2 : datN 60 (.lst qs) = true := by rw [datN]; exact c.2
      refine .inl ⟨_, toDs qs, hp.dp hB.sub c.1, ?_, shaped_toD c.1, ?_, ?_⟩
      · have := hq.dp hB.sub d2
        rw [toD] at this
        exact this
      · have := shaped_toD d2
        rw [toD] at this
        exact this
      · rw [any_toDs 60 p c.1 59 qs c.2]
        exact k _ H F (hB.push_fz (.bl _))
    · cases hb
  · rename_i qs
    split at hb
    · rename_i c
      cases hb
      obtain ⟨a, vs, rfl, h1, r1⟩ := hq.tup hB.sub
      have hp' := hp.rp hB.sub
      have r1' := r1.mono hB.sub
      refine .inr ⟨a, vs, rfl, .inr h1, flat_rp hp' c.1, flat_rpl r1' c.2, ?_⟩
      have e1 : inV x vs = qs.any fun z => eqP z p := inV_rpl hp' c.1 r1' c.2
      rw [e1]
      exact k _ H F (hB.push_fz (.bl _))
    · cases hb
  · cases hb
theorem bin_notIn {R : RE} : BinOk R opNotIn (fun x y H Q => rNotInD R.K x y H Q ∨ rIn R.K true x y H Q) := by
  intro e F H B p q x y r Q hB hp hq ho k
  unfold opNotIn at ho
  rw [Option.map_eq_some_iff] at ho
  obtain ⟨b, hb, rfl⟩ := ho
  unfold inP at hb
  split at hb
  · rename_i qs
    split at hb
    · rename_i c
      cases hb
      have d2 : datN 60 (.lst qs) = true := by rw [datN]; exact c.2
      refine .inl ⟨_, toDs qs, hp.dp hB.sub c.1, ?_, shaped_toD c.1, ?_, ?_⟩
      · have := hq.dp hB.sub d2
        rw [toD] at this
        exact this
      · have := shaped_toD d2
        rw [toD] at this
        exact this
      · rw [any_toDs 60 p c.1 59 qs c.2]
        exact k _ H F (hB.push_fz (.bl _))
    · cases hb
  · rename_i qs
    split at hb
    · rename_i c
      cases hb
      obtain ⟨a, vs, rfl, h1, r1⟩ := hq.tup hB.sub
      have hp' := hp.rp hB.sub
      have r1' := r1.mono hB.sub
      refine .inr ⟨a, vs, rfl, .inr h1, flat_rp hp' c.1, flat_rpl r1' c.2, ?_⟩
      have e1 : inV x vs = qs.any fun z => eqP z p := inV_rpl hp' c.1 r1' c.2
      rw [e1]
      exact k _ H F (hB.push_fz (.bl _))
    · cases hb
  · cases hb
theorem opr_in {X : Cx} (hu : X.A.units + 65 < cLine) : OpR X (compareOp .In) (fun x y H Q => rInD X.K x y H Q ∨ rIn X.K false x y H Q) := (op_inD hu).or op_in_seq
theorem opr_notIn {X : Cx} (hu : X.A.units + 65 < cLine) : OpR X (compareOp .NotIn) (fun x y H Q => rNotInD X.K x y H Q ∨ rIn X.K true x y H Q) := (op_notInD hu).or op_notIn_seq
/-- -i -/
def eNeg (f : PF) : PF := fun ρ => (f ρ).bind fun x => match x.1 with
  | .fz (.int i) => some (.fz (.int (-i)), x.2)
  | _ => none

section
variable {X : Cx} {R : RE} {a b c : Expr} {fa fb fc : PF} {ga gb gc : PT'} {pos : Pos} {rest : List Expr}
theorem eNeg_some {f : PF} {ρ ρ' : List Sl} {r : Sl} (h : eNeg f ρ = some (r, ρ')) : ∃ i, f ρ = some (.fz (.int i), ρ') ∧ r = .fz (.int (-i)) := by
  unfold eNeg at h
  rw [Option.bind_eq_some_iff] at h
  obtain ⟨⟨r1, ρ1⟩, h1, h⟩ := h
  cases r1 with
  | fz p =>
    cases p with
    | int i => cases h; exact ⟨i, h1, rfl⟩
    | _ => cases h
  | _ => cases h
theorem ev_neg (h : Ev X R a fa) : Ev X R (.UnaryOp .USub a pos) (eNeg fa) := by
  refine ⟨fun ρ r ρ' q => ?_, pe_mono (pe_un un_neg h.pe) fun σ H Q q => ?_⟩
  · obtain ⟨i, h1, _⟩ := eNeg_some q
    exact h.len _ _ _ h1
  · obtain ⟨e, F, ρ, tm, r, ρ', hl, hB, hf, k⟩ := q
    obtain ⟨i, h1, rfl⟩ := eNeg_some hf
    refine ⟨e, F, ρ, tm, _, ρ', hl, hB, h1, fun x H' F' B' _ => ?_⟩
    have hx := (B'.rq_fz (x := x) (p := .int i) app_last).int
    exact ⟨i, hx, k _ H' F' (B'.pop.push_fz (.int _)) pk_fz⟩
/-! ### and, or, not -/
def tAndF (ga gb : PT') : PT' := fun ρ => (ga ρ).bind fun x => if x.1 = true then gb x.2 else some (false, x.2)
def tOrF (ga gb : PT') : PT' := fun ρ => (ga ρ).bind fun x => if x.1 = true then some (true, x.2) else gb x.2
def tNotF (ga : PT') : PT' := fun ρ => (ga ρ).map fun x => (!x.1, x.2)
structure Wv (X : Cx) (R : RE) (e : Expr) (f : PT') : Prop where
  len : ∀ ρ r ρ', f ρ = some (r, ρ') → ρ'.length = ρ.length
  pw : PW X e (TTv R f)
theorem Wv.tv {e : Expr} {f : PT'} (h : Wv X R e f) : Tv X R e f := ⟨h.len, h.pw.pt⟩
theorem wv_and1 (h : Tv X R a ga) : Wv X R (.BoolOp .And [a] pos) ga := ⟨h.len, pw_and1 h.pt⟩
theorem wv_or1 (h : Tv X R a ga) : Wv X R (.BoolOp .Or [a] pos) ga := ⟨h.len, pw_or1 h.pt⟩
theorem tAndF_len (la : ∀ ρ r ρ', ga ρ = some (r, ρ') → ρ'.length = ρ.length) (lb : ∀ ρ r ρ', gb ρ = some (r, ρ') → ρ'.length = ρ.length) : ∀ ρ r ρ', tAndF ga gb ρ = some (r, ρ') → ρ'.length = ρ.length := fun ρ r ρ' h => by
  unfold tAndF at h
  rw [Option.bind_eq_some_iff] at h
  obtain ⟨⟨c, ρ1⟩, h1, h⟩ := h
  cases c with
  | true => exact (lb _ _ _ h).trans (la _ _ _ h1)
  | false => cases h; exact la _ _ _ h1
theorem tOrF_len (la : ∀ ρ r ρ', ga ρ = some (r, ρ') → ρ'.length = ρ.length) (lb : ∀ ρ r ρ', gb ρ = some (r, ρ') → ρ'.length = ρ.length) : ∀ ρ r ρ', tOrF ga gb ρ = some (r, ρ') → ρ'.length = ρ.length := fun ρ r ρ' h => by
  unfold tOrF at h
  rw [Option.bind_eq_some_iff] at h
  obtain ⟨⟨c, ρ1⟩, h1, h⟩ := h
  cases c with
  | false => exact (lb _ _ _ h).trans (la _ _ _ h1)
  | true => cases h; exact la _ _ _ h1
theorem wv_and (h : Tv X R a ga) (hb : Wv X R (.BoolOp .And (b :: rest) pos) gb) : Wv X R (.BoolOp .And (a :: b :: rest) pos) (tAndF ga gb) := by
  refine ⟨tAndF_len h.len hb.len, pw_mono (pw_and h.pt hb.pw) fun σ H Q q => ?_⟩
  obtain ⟨e, F, ρ, tm, r, ρ', hl, hB, hf, k⟩ := q
  unfold tAndF at hf
  rw [Option.bind_eq_some_iff] at hf
  obtain ⟨⟨c, ρ1⟩, h1, hf⟩ := hf
  refine ⟨e, F, ρ, tm, c, ρ1, hl, hB, h1, fun H1 F1 B1 => ?_⟩
  cases c with
  | true => rw [if_pos rfl]; exact ⟨e, F1, ρ1, tm, r, ρ', (h.len _ _ _ h1).trans hl, B1, hf, k⟩
  | false => rw [if_neg Bool.false_ne_true]; cases hf; exact k H1 F1 B1
theorem wv_or (h : Tv X R a ga) (hb : Wv X R (.BoolOp .Or (b :: rest) pos) gb) : Wv X R (.BoolOp .Or (a :: b :: rest) pos) (tOrF ga gb) := by
  refine ⟨tOrF_len h.len hb.len, pw_mono (pw_or h.pt hb.pw) fun σ H Q q => ?_⟩
  obtain ⟨e, F, ρ, tm, r, ρ', hl, hB, hf, k⟩ := q
  unfold tOrF at hf
  rw [Option.bind_eq_some_iff] at hf
  obtain ⟨⟨c, ρ1⟩, h1, hf⟩ := hf
  refine ⟨e, F, ρ, tm, c, ρ1, hl, hB, h1, fun H1 F1 B1 => ?_⟩
  cases c with
  | false => rw [if_neg Bool.false_ne_true]; exact ⟨e, F1, ρ1, tm, r, ρ', (h.len _ _ _ h1).trans hl, B1, hf, k⟩
  | true => rw [if_pos rfl]; cases hf; exact k H1 F1 B1
theorem tNotF_some {f : PT'} {ρ ρ' : List Sl} {r : Bool} (h : tNotF f ρ = some (r, ρ')) : f ρ = some (!r, ρ') := by
  unfold tNotF at h
  rw [Option.map_eq_some_iff] at h
  obtain ⟨⟨c, ρ1⟩, h1, h⟩ := h
  cases h
  rw [Bool.not_not]; exact h1
theorem tv_not (h : Tv X R a ga) : Tv X R (.UnaryOp .Not a pos) (tNotF ga) := by
  refine ⟨fun ρ r ρ' q => h.len _ _ _ (tNotF_some q), pt_mono (pt_not h.pt) fun σ H Q q => ?_⟩
  obtain ⟨e, F, ρ, tm, r, ρ', hl, hB, hf, k⟩ := q
  exact ⟨e, F, ρ, tm, !r, ρ', hl, hB, tNotF_some hf, fun H1 F1 B1 => by show Q (!(!r)) H1; rw [Bool.not_not]; exact k H1 F1 B1⟩
/-- .. as values -/
def vOf (g : PT') : PF := fun ρ => (g ρ).map fun x => (.fz (.bl x.1), x.2)
/-- and, or as values: all but the last are truth values -/
def eAndF (fa fb : PF) : PF := fun ρ => (tOf fa ρ).bind fun x => if x.1 = true then fb x.2 else some (.fz (.bl false), x.2)
def eOrF (fa fb : PF) : PF := fun ρ => (tOf fa ρ).bind fun x => if x.1 = true then some (.fz (.bl true), x.2) else fb x.2
theorem tEv_bl {f : PF} {σ : L2.St} {H : Hp} {Q : Bool → Hp → Prop} (h : TTv R (tOf f) σ H Q) : TEv R f σ H fun x H' => ∃ k, x = .bl k ∧ Q k H' := tTest_of σ H Q h
theorem ev_one {op : BoolOp} (h : Ev X R a fa) : Ev X R (.BoolOp op [a] pos) fa := ⟨h.len, pe_one h.pe⟩
theorem ev_and (h : Ev X R a fa) (hb : Ev X R (.BoolOp .And (b :: rest) pos) fb) : Ev X R (.BoolOp .And (a :: b :: rest) pos) (eAndF fa fb) := by
  refine ⟨fun ρ r ρ' q => ?_, pe_mono (pe_and h.pe hb.pe) fun σ H Q q => ?_⟩
  · unfold eAndF at q
    rw [Option.bind_eq_some_iff] at q
    obtain ⟨⟨c, ρ1⟩, h1, q⟩ := q
    have l1 := tOf_len h.len _ _ _ h1
    cases c with
    | true => exact (hb.len _ _ _ q).trans l1
    | false => cases q; exact l1
  · obtain ⟨e, F, ρ, tm, r, ρ', hl, hB, hf, k⟩ := q
    unfold eAndF at hf
    rw [Option.bind_eq_some_iff] at hf
    obtain ⟨⟨c, ρ1⟩, h1, hf⟩ := hf
    have l1 := tOf_len h.len _ _ _ h1
    refine tEv_bl ⟨e, F, ρ, tm, c, ρ1, hl, hB, h1, fun H1 F1 B1 => ?_⟩
    cases c with
    | true => rw [if_pos rfl]; exact ⟨e, F1, ρ1, tm, r, ρ', l1.trans hl, B1, hf, k⟩
    | false => rw [if_neg Bool.false_ne_true]; cases hf; exact k _ H1 F1 (B1.push_fz (.bl _)) pk_fz
theorem ev_or (h : Ev X R a fa) (hb : Ev X R (.BoolOp .Or (b :: rest) pos) fb) : Ev X R (.BoolOp .Or (a :: b :: rest) pos) (eOrF fa fb) := by
  refine ⟨fun ρ r ρ' q => ?_, pe_mono (pe_or h.pe hb.pe) fun σ H Q q => ?_⟩
  · unfold eOrF at q
    rw [Option.bind_eq_some_iff] at q
    obtain ⟨⟨c, ρ1⟩, h1, q⟩ := q
    have l1 := tOf_len h.len _ _ _ h1
    cases c with
    | false => exact (hb.len _ _ _ q).trans l1
    | true => cases q; exact l1
  · obtain ⟨e, F, ρ, tm, r, ρ', hl, hB, hf, k⟩ := q
    unfold eOrF at hf
    rw [Option.bind_eq_some_iff] at hf
    obtain ⟨⟨c, ρ1⟩, h1, hf⟩ := hf
    have l1 := tOf_len h.len _ _ _ h1
    refine tEv_bl ⟨e, F, ρ, tm, c, ρ1, hl, hB, h1, fun H1 F1 B1 => ?_⟩
    cases c with
    | false => rw [if_neg Bool.false_ne_true]; exact ⟨e, F1, ρ1, tm, r, ρ', l1.trans hl, B1, hf, k⟩
    | true => rw [if_pos rfl]; cases hf; exact k _ H1 F1 (B1.push_fz (.bl _)) pk_fz
def eNotF (fa : PF) : PF := fun ρ => (tOf fa ρ).map fun x => (.fz (.bl (!x.1)), x.2)
theorem ev_not (h : Ev X R a fa) : Ev X R (.UnaryOp .Not a pos) (eNotF fa) := by
  refine ⟨fun ρ r ρ' q => ?_, pe_mono (pe_not h.pe) fun σ H Q q => ?_⟩
  · unfold eNotF at q
    rw [Option.map_eq_some_iff] at q
    obtain ⟨⟨c, ρ1⟩, h1, q⟩ := q
    cases q
    exact tOf_len h.len _ _ _ h1
  · obtain ⟨e, F, ρ, tm, r, ρ', hl, hB, hf, k⟩ := q
    unfold eNotF at hf
    rw [Option.map_eq_some_iff] at hf
    obtain ⟨⟨c, ρ1⟩, h1, hf⟩ := hf
    cases hf
    exact tEv_bl ⟨e, F, ρ, tm, c, ρ1, hl, hB, h1, fun H1 F1 B1 => k _ H1 F1 (B1.push_fz (.bl _)) pk_fz⟩
/-! ### a if t else b -/
def eIf (g : PT') (fa fb : PF) : PF := fun ρ => (g ρ).bind fun x => if x.1 = true then fa x.2 else fb x.2
theorem ev_if (h : Tv X R c gc) (ha : Ev X R a fa) (hb : Ev X R b fb) : Ev X R (.IfExp c a b pos) (eIf gc fa fb) := by
  refine ⟨fun ρ r ρ' q => ?_, pe_mono (pe_ifExp h.pt ha.pe hb.pe) fun σ H Q q => ?_⟩
  · unfold eIf at q
    rw [Option.bind_eq_some_iff] at q
    obtain ⟨⟨c, ρ1⟩, h1, q⟩ := q
    cases c with
    | true => exact (ha.len _ _ _ q).trans (h.len _ _ _ h1)
    | false => exact (hb.len _ _ _ q).trans (h.len _ _ _ h1)
  · obtain ⟨e, F, ρ, tm, r, ρ', hl, hB, hf, k⟩ := q
    unfold eIf at hf
    rw [Option.bind_eq_some_iff] at hf
    obtain ⟨⟨c, ρ1⟩, h1, hf⟩ := hf
    refine ⟨e, F, ρ, tm, c, ρ1, hl, hB, h1, fun H1 F1 B1 => ?_⟩
    cases c with
    | true => rw [if_pos rfl]; exact ⟨e, F1, ρ1, tm, r, ρ', (h.len _ _ _ h1).trans hl, B1, hf, k⟩
    | false => rw [if_neg Bool.false_ne_true]; exact ⟨e, F1, ρ1, tm, r, ρ', (h.len _ _ _ h1).trans hl, B1, hf, k⟩
/-! ### a chain of two comparisons -/
def eChain (op op' : PV → PV → Option Vl) (fa fb fc : PF) : PF := fun ρ => (fa ρ).bind fun x => (fb x.2).bind fun y => (cont y.2 x.1).bind fun p => (cont y.2 y.1).bind fun q => match op p q with
  | some (.fz (.bl true)) => (fc y.2).bind fun z => (cont z.2 y.1).bind fun q' => (cont z.2 z.1).bind fun r => (op' q' r).map fun v => (v.sl, z.2)
  | some (.fz (.bl false)) => some (.fz (.bl false), y.2)
  | _ => none
theorem chain_len {op op' : PV → PV → Option Vl} (la : ∀ ρ r ρ', fa ρ = some (r, ρ') → ρ'.length = ρ.length) (lb : ∀ ρ r ρ', fb ρ = some (r, ρ') → ρ'.length = ρ.length) (lc : ∀ ρ r ρ', fc ρ = some (r, ρ') → ρ'.length = ρ.length) :
    ∀ ρ r ρ', eChain op op' fa fb fc ρ = some (r, ρ') → ρ'.length = ρ.length := fun ρ r ρ' h => by
  unfold eChain at h
  rw [Option.bind_eq_some_iff] at h
  obtain ⟨⟨r1, ρ1⟩, h1, h⟩ := h
  rw [Option.bind_eq_some_iff] at h
  obtain ⟨⟨r2, ρ2⟩, h2, h⟩ := h
  rw [Option.bind_eq_some_iff] at h
  obtain ⟨p, h3, h⟩ := h
  rw [Option.bind_eq_some_iff] at h
  obtain ⟨q, h4, h⟩ := h
  have l := (lb _ _ _ h2).trans (la _ _ _ h1)
  split at h
  · rw [Option.bind_eq_some_iff] at h
    obtain ⟨⟨r3, ρ3⟩, h5, h⟩ := h
    rw [Option.bind_eq_some_iff] at h
    obtain ⟨q', h6, h⟩ := h
    rw [Option.bind_eq_some_iff] at h
    obtain ⟨r', h7, h⟩ := h
    rw [Option.map_eq_some_iff] at h
    obtain ⟨v, _, h⟩ := h
    cases h
    exact (lc _ _ _ h5).trans l
  · cases h; exact l
  · cases h
theorem tChain_of {op op' : PV → PV → Option Vl} {rd rd' : R2} (ho : BinOk R op rd) (ho' : BinOk R op' rd') (la : ∀ ρ r ρ', fa ρ = some (r, ρ') → ρ'.length = ρ.length) (lb : ∀ ρ r ρ', fb ρ = some (r, ρ') → ρ'.length = ρ.length) (lc : ∀ ρ r ρ', fc ρ = some (r, ρ') → ρ'.length = ρ.length)
    (σ : L2.St) (H : Hp) (Q : VK) (h : TEv R (eChain op op' fa fb fc) σ H Q) : tChain rd rd' (TEv R fa) (TEv R fb) (TEv R fc) σ H Q := by
  obtain ⟨e, F, ρ, tm, r, ρ', hl, hB, hf, k⟩ := h
  unfold eChain at hf
  rw [Option.bind_eq_some_iff] at hf
  obtain ⟨⟨r1, ρ1⟩, h1, hf⟩ := hf
  rw [Option.bind_eq_some_iff] at hf
  obtain ⟨⟨r2, ρ2⟩, h2, hf⟩ := hf
  rw [Option.bind_eq_some_iff] at hf
  obtain ⟨p, h3, hf⟩ := hf
  rw [Option.bind_eq_some_iff] at hf
  obtain ⟨q, h4, hf⟩ := hf
  have l1 := la _ _ _ h1
  have l2 := lb _ _ _ h2
  dsimp only at h2 h3 h4 hf
  refine ⟨e, F, ρ, tm, r1, ρ1, hl, hB, h1, fun x1 H1 F1 B1 k1 => ?_⟩
  rw [List.append_assoc] at B1
  refine ⟨e, F1, ρ1, tm ++ [(tmpOf r1, some x1)], r2, ρ2, l1.trans hl, B1, h2, fun x2 H2 F2 B2 k2 => ?_⟩
  have g1 : (ρ2.zip σ ++ (tm ++ [(tmpOf r1, some x1)]) ++ [(tmpOf r2, some x2)])[(ρ2.zip σ ++ tm).length]? = some (tmpOf r1, some x1) := by
    rw [← List.append_assoc (ρ2.zip σ), List.append_assoc]; exact app_mid
  have g2 : (ρ2.zip σ ++ (tm ++ [(tmpOf r1, some x1)]) ++ [(tmpOf r2, some x2)])[(ρ2.zip σ ++ (tm ++ [(tmpOf r1, some x1)])).length]? = some (tmpOf r2, some x2) := app_last
  have q1 : Rq R F2 H2 p x1 := by
    have B2' := B2
    rw [List.append_assoc] at B2' g1
    exact B2'.rq g1 k1 h3
  have q2 : Rq R F2 H2 q x2 := by
    have B2' := B2
    rw [List.append_assoc] at B2' g2
    exact B2'.rq g2 k2 h4
  -- the second operand stays, the first goes
  have B3 : Bag R e F2 H2 (ρ2.zip σ ++ (tm ++ [(.un, some x1)]) ++ [(tmpOf r2, some x2)]) := by
    have := B2.put g1 (t := .un) trivial (fun _ z => nomatch z)
    rw [List.set_append_left _ _ (by simp), ← List.append_assoc (ρ2.zip σ), List.set_append_right _ _ (Nat.le_refl _), Nat.sub_self] at this
    rw [← List.append_assoc (ρ2.zip σ)]
    exact this
  cases ho1 : op p q with
  | none => rw [ho1] at hf; cases hf
  | some w =>
    rw [ho1] at hf
    refine ho e F2 H2 _ p q x1 x2 w _ B3 q1 q2 ho1 fun z H3 F3 B4 => ?_
    cases w with
    | own _ => cases hf
    | fz w =>
      cases w with
      | bl d =>
        have ez := (B4.rq_fz (x := z) (p := .bl d) app_last).bl
        refine ⟨d, ez, ?_⟩
        have B5 := B4.pop
        cases d with
        | false =>
          rw [if_neg Bool.false_ne_true]
          cases hf
          have B6 := B5.pop
          rw [← List.append_assoc] at B6
          exact k _ H3 F3 (B6.pop.push_fz (.bl _)) pk_fz
        | true =>
          rw [if_pos rfl]
          dsimp only at hf
          rw [Option.bind_eq_some_iff] at hf
          obtain ⟨⟨r3, ρ3⟩, h5, hf⟩ := hf
          rw [Option.bind_eq_some_iff] at hf
          obtain ⟨q', h6, hf⟩ := hf
          rw [Option.bind_eq_some_iff] at hf
          obtain ⟨p3, h7, hf⟩ := hf
          rw [Option.map_eq_some_iff] at hf
          obtain ⟨v, h8, hf⟩ := hf
          cases hf
          rw [List.append_assoc] at B5
          refine ⟨e, F3, ρ2, _, r3, ρ3, l2.trans (l1.trans hl), B5, h5, fun x3 H4 F4 B6 k3 => ?_⟩
          have l3 := lc _ _ _ h5
          have g3 : (ρ3.zip σ ++ (tm ++ [(Sl.un, some x1)] ++ [(tmpOf r2, some x2)]) ++ [(tmpOf r3, some x3)])[(ρ3.zip σ ++ (tm ++ [(Sl.un, some x1)])).length]? = some (tmpOf r2, some x2) := by
            rw [← List.append_assoc (ρ3.zip σ), List.append_assoc]; exact app_mid
          have g4 : (ρ3.zip σ ++ (tm ++ [(Sl.un, some x1)] ++ [(tmpOf r2, some x2)]) ++ [(tmpOf r3, some x3)])[(ρ3.zip σ ++ (tm ++ [(Sl.un, some x1)] ++ [(tmpOf r2, some x2)])).length]? = some (tmpOf r3, some x3) := app_last
          have q3 : Rq R F4 H4 q' x2 := by
            have B6' := B6
            rw [List.append_assoc] at B6' g3
            exact B6'.rq g3 k2 h6
          have q4 : Rq R F4 H4 p3 x3 := by
            have B6' := B6
            rw [List.append_assoc] at B6' g4
            exact B6'.rq g4 k3 h7
          have B7 : Bag R e F4 H4 (ρ3.zip σ ++ tm) := by
            have B8 := B6.pop
            rw [← List.append_assoc] at B8
            have B9 := B8.pop
            rw [← List.append_assoc] at B9
            exact B9.pop
          exact ho' e F4 H4 _ q' p3 x2 x3 v Q B7 q3 q4 h8 fun z H' F' B' => k z H' F' (by rw [tmp_sl]; exact B') (sl_pk v σ z)
      | _ => cases hf
theorem ev_chain {o o' : CmpOp} {op op' : PV → PV → Option Vl} {rd rd' : R2} (hr : OpR X (compareOp o) rd) (hr' : OpR X (compareOp o') rd') (ho : BinOk R op rd) (ho' : BinOk R op' rd') (ha : Ev X R a fa) (hb : Ev X R b fb) (hc : Ev X R c fc)
    (hm : lastMarks [o, o'] [b, c] = false := by with_unfolding_all rfl) : Ev X R (.Compare a [o, o'] [b, c] pos) (eChain op op' fa fb fc) :=
  ⟨chain_len ha.len hb.len hc.len, pe_mono (pe_chain hr hr' ha.pe hb.pe hc.pe hm) (tChain_of ho ho' ha.len hb.len hc.len)⟩
theorem tv_chain {o o' : CmpOp} {op op' : PV → PV → Option Vl} {rd rd' : R2} (hr : OpR X (compareOp o) rd) (hr' : OpR X (compareOp o') rd') (ho : BinOk R op rd) (ho' : BinOk R op' rd') (ha : Ev X R a fa) (hb : Ev X R b fb) (hc : Ev X R c fc)
    (hm : lastMarks [o, o'] [b, c] = false := by with_unfolding_all rfl) : Tv X R (.Compare a [o, o'] [b, c] pos) (tOf (eChain op op' fa fb fc)) :=
  ⟨tOf_len (chain_len ha.len hb.len hc.len), pt_mono (pt_chain hr hr' ha.pe hb.pe hc.pe hm) fun σ H Q q => tChain_of ho ho' ha.len hb.len hc.len σ H _ (tTest_of σ H Q q)⟩
/-! ### indices -/
def opIx : PV → PV → Option Vl
  | .lst xs, .int i => (atI xs i).map .fz
  | .tup xs, .int i => (atI xs i).map .fz
  | .str z, .int i => if z.length ≤ lineN then (atI z.cps.toList i).map fun c => .fz (.str ⟨#[c]⟩) else none
  | _, _ => none
theorem atI_rp {F : Hp} {ps : List PV} {vs : List V} {i : Int} {p : PV} (h : RpL R F ps vs) (e : atI ps i = some p) : ∃ v, atI vs i = some v ∧ Rp R F p v := by
  unfold atI at e ⊢
  rw [← h.length]
  rw [Option.bind_eq_some_iff] at e
  obtain ⟨j, h1, h2⟩ := e
  obtain ⟨v, h3, h4⟩ := h.get' h2
  exact ⟨v, by rw [h1]; exact h3, h4⟩
theorem bin_ix : BinOk R opIx (rIx R.K) := by
  intro e F H B p q x y r Q hB hp hq ho k
  unfold opIx at ho
  split at ho
  · rename_i xs i
    rw [Option.map_eq_some_iff] at ho
    obtain ⟨z, h1, rfl⟩ := ho
    obtain ⟨a, vs, rfl, h2, r1⟩ := hp.lst hB.sub
    obtain ⟨v, h3, h4⟩ := atI_rp r1 h1
    exact .inl ⟨a, vs, i, v, rfl, hq.int, SqL.of h2, h3, k _ H F (hB.push_fz h4)⟩
  · rename_i xs i
    rw [Option.map_eq_some_iff] at ho
    obtain ⟨z, h1, rfl⟩ := ho
    obtain ⟨a, vs, rfl, h2, r1⟩ := hp.tup hB.sub
    obtain ⟨v, h3, h4⟩ := atI_rp r1 h1
    exact .inr (.inl ⟨a, vs, i, v, rfl, hq.int, h2, h3, k _ H F (hB.push_fz h4)⟩)
  · rename_i z i
    split at ho
    · rename_i c
      rw [Option.map_eq_some_iff] at ho
      obtain ⟨w, h1, rfl⟩ := ho
      exact .inr (.inr ⟨z, i, w, hp.str, hq.int, by rw [← lineN_eq]; exact c, h1, k _ H F (hB.push_fz (.str _))⟩)
    · cases ho
  · cases ho
theorem ev_ix (hK : R.K = X.K) (ha : Ev X R a fa) (hb : Ev X R b fb) (hs : PlainIx b := by intro _ _; rfl) : Ev X R (.Subscript a b pos) (eBin opIx fa fb) :=
  ⟨bin_len ha.len hb.len, pe_mono (pe_ix ix_seq ha.pe hb.pe hs) (by rw [← hK]; exact tOp_of bin_ix ha.len hb.len)⟩
end

/-! ### slices -/
abbrev PFo := List Sl → Option (Option Int × List Sl)
def TOv (R : RE) (f : PFo) : TO := fun σ H Q => ∃ (e : En) (F : Hp) (ρ : List Sl) (tm : Bg) (b : Option Int) (ρ' : List Sl), ρ.length = σ.length ∧ Bag R e F H (ρ.zip σ ++ tm) ∧ f ρ = some (b, ρ') ∧
  ∀ H' F', Bag R e F' H' (ρ'.zip σ ++ tm) → Q b H'
structure Ov (X : Cx) (R : RE) (e : Option Expr) (f : PFo) : Prop where
  len : ∀ ρ r ρ', f ρ = some (r, ρ') → ρ'.length = ρ.length
  po : PO X e (TOv R f)
def oNone : PFo := fun ρ => some (none, ρ)
def oSome (f : PF) : PFo := fun ρ => (f ρ).bind fun x => match x.1 with
  | .fz (.int i) => some (some i, x.2)
  | _ => none
section
variable {X : Cx} {R : RE} {a b c : Expr} {fa fb fc : PF} {pos p2 : Pos}
theorem po_mono {o : Option Expr} {t t' : TO} (h : PO X o t) (m : ∀ σ H Q, t' σ H Q → t σ H Q) : PO X o t' := ⟨fun pins s σ H Q I q => h.run pins s σ H Q I (m σ H Q q)⟩
theorem ov_none : Ov X R none oNone := ⟨fun ρ r ρ' h => by cases h; rfl, po_mono po_none fun σ H Q h => by
  obtain ⟨e, F, ρ, tm, r', ρ', hl, hB, hf, k⟩ := h
  cases hf
  exact k H F hB⟩
theorem oSome_some {f : PF} {ρ ρ' : List Sl} {r : Option Int} (h : oSome f ρ = some (r, ρ')) : ∃ i, f ρ = some (.fz (.int i), ρ') ∧ r = some i := by
  unfold oSome at h
  rw [Option.bind_eq_some_iff] at h
  obtain ⟨⟨r1, ρ1⟩, h1, h⟩ := h
  cases r1 with
  | fz p =>
    cases p with
    | int i => cases h; exact ⟨i, h1, rfl⟩
    | _ => cases h
  | _ => cases h
theorem ov_some (h : Ev X R a fa) : Ov X R (some a) (oSome fa) := by
  refine ⟨fun ρ r ρ' q => ?_, po_mono (po_some h.pe) fun σ H Q q => ?_⟩
  · obtain ⟨i, h1, _⟩ := oSome_some q
    exact h.len _ _ _ h1
  · obtain ⟨e, F, ρ, tm, r, ρ', hl, hB, hf, k⟩ := q
    obtain ⟨i, h1, rfl⟩ := oSome_some hf
    refine ⟨e, F, ρ, tm, _, ρ', hl, hB, h1, fun x H' F' B' _ => ⟨i, (B'.rq_fz (x := x) (p := .int i) app_last).int, k H' F' B'.pop⟩⟩
def cutP {α : Type} (xs : List α) (lo hi : Option Int) : List α := (xs.drop (HT.sIx xs.length 0 lo)).take (HT.sIx xs.length xs.length hi - HT.sIx xs.length 0 lo)
theorem cutP_rp {F : Hp} {ps : List PV} {vs : List V} (h : RpL R F ps vs) (lo hi : Option Int) : RpL R F (cutP ps lo hi) (cutV vs lo hi) := by
  unfold cutP cutV
  rw [h.length]
  exact (h.drop _).take _
def opSl (p : PV) (lo hi : Option Int) : Option Vl := match p with
  | .lst xs => some (.own (cutP xs lo hi))
  | .scr xs => some (.own (cutP xs lo hi))
  | .tup xs => some (.fz (.tup (cutP xs lo hi)))
  | .str z => if z.length ≤ lineN then some (.fz (.str (cutS z lo hi))) else none
  | _ => none
def eSl (fa : PF) (fl fh : PFo) : PF := fun ρ => (fa ρ).bind fun x => (fl x.2).bind fun l => (fh l.2).bind fun h => (cont h.2 x.1).bind fun p => (opSl p l.1 h.1).map fun r => (r.sl, h.2)
def rSl (K : PySem.W.Frag) : V → Option Int → Option Int → Hp → VK → Prop := fun x lo hi H Q => rSlL K x lo hi H Q ∨ (rSlA K x lo hi H Q ∨ rSlS x lo hi H Q)
theorem cut_all {α : Type} {xs : List α} {lo hi : Option Int} (h1 : HT.sIx xs.length 0 lo = 0) (h2 : HT.sIx xs.length xs.length hi = xs.length) : cutP xs lo hi = xs := by
  unfold cutP
  rw [h1, h2, List.drop_zero, Nat.sub_zero, List.take_length]
theorem sl_ok {e : En} {F H : Hp} {B : Bg} {p : PV} {x : V} {lo hi : Option Int} {v : Vl} {Q : VK} (hB : Bag R e F H B) (hp : Rq R F H p x) (ho : opSl p lo hi = some v)
    (k : ∀ z H' F', Bag R e F' H' (B ++ [(v.sl, some z)]) → Q z H') : rSl R.K x lo hi H Q := by
  unfold opSl at ho
  split at ho
  · cases ho
    obtain ⟨a, vs, rfl, h1, r1⟩ := hp.lst hB.sub
    exact .inl ⟨a, vs, rfl, SqL.of h1, fun p n => k _ _ _ (hB.new_lst n (cutP_rp r1 lo hi))⟩
  · cases ho
    obtain ⟨a, vs, rfl, h1, r1⟩ := hp.scr hB.sub
    exact .inl ⟨a, vs, rfl, h1, fun p n => k _ _ _ (hB.new_lst n (cutP_rp r1 lo hi))⟩
  · rename_i xs
    cases ho
    have hp' := hp
    obtain ⟨a, vs, rfl, h1, r1⟩ := hp.tup hB.sub
    refine .inr (.inl ⟨a, vs, rfl, h1, fun z => ?_, fun z p n => k _ _ _ (hB.new_tup n (cutP_rp r1 lo hi))⟩)
    have hp2 : Rp R F (.tup xs) (.ref a) := by
      rcases hp' with h | ⟨_, _, _, _, z, _⟩
      · exact h
      · cases z
    rw [← r1.length] at z
    refine k _ H F ?_
    show Bag R e F H (B ++ [(Sl.fz (.tup (cutP xs lo hi)), _)])
    rw [cut_all z.1 z.2]
    exact hB.push_fz hp2
  · rename_i z
    split at ho
    · rename_i c
      cases ho
      exact .inr (.inr ⟨z, hp.str, by rw [← lineN_eq]; exact c, k _ H F (hB.push_fz (.str _))⟩)
    · cases ho
  · cases ho
theorem ev_sl (hK : R.K = X.K) {lo hi : Option Expr} {fl fh : PFo} (ha : Ev X R a fa) (hl : Ov X R lo fl) (hh : Ov X R hi fh) : Ev X R (.Subscript a (.Slice lo hi none p2) pos) (eSl fa fl fh) := by
  have key : ∀ {ρ ρ' : List Sl} {r : Sl}, eSl fa fl fh ρ = some (r, ρ') → ∃ r1 ρ1 l ρ2 h p v, fa ρ = some (r1, ρ1) ∧ fl ρ1 = some (l, ρ2) ∧ fh ρ2 = some (h, ρ') ∧ cont ρ' r1 = some p ∧ opSl p l h = some v ∧ r = v.sl := by
    intro ρ ρ' r q
    unfold eSl at q
    rw [Option.bind_eq_some_iff] at q
    obtain ⟨⟨r1, ρ1⟩, h1, q⟩ := q
    rw [Option.bind_eq_some_iff] at q
    obtain ⟨⟨l, ρ2⟩, h2, q⟩ := q
    rw [Option.bind_eq_some_iff] at q
    obtain ⟨⟨h, ρ3⟩, h3, q⟩ := q
    rw [Option.bind_eq_some_iff] at q
    obtain ⟨p, h4, q⟩ := q
    rw [Option.map_eq_some_iff] at q
    obtain ⟨v, h5, q⟩ := q
    cases q
    exact ⟨r1, ρ1, l, ρ2, h, p, v, h1, h2, h3, h4, h5, rfl⟩
  refine ⟨fun ρ r ρ' q => ?_, pe_mono (pe_slice (sl_list.or (sl_tupA.or sl_str)) ha.pe hl.po hh.po) fun σ H Q q => ?_⟩
  · obtain ⟨r1, ρ1, l, ρ2, h, p, v, h1, h2, h3, _⟩ := key q
    exact (hh.len _ _ _ h3).trans ((hl.len _ _ _ h2).trans (ha.len _ _ _ h1))
  · obtain ⟨e, F, ρ, tm, r, ρ', hl', hB, hf, k⟩ := q
    obtain ⟨r1, ρ1, l, ρ2, h, p, v, h1, h2, h3, h4, h5, rfl⟩ := key hf
    have l1 := ha.len _ _ _ h1
    have l2 := hl.len _ _ _ h2
    refine ⟨e, F, ρ, tm, r1, ρ1, hl', hB, h1, fun x1 H1 F1 B1 k1 => ?_⟩
    rw [List.append_assoc] at B1
    refine ⟨e, F1, ρ1, _, l, ρ2, l1.trans hl', B1, h2, fun H2 F2 B2 => ?_⟩
    refine ⟨e, F2, ρ2, _, h, ρ', l2.trans (l1.trans hl'), B2, h3, fun H3 F3 B3 => ?_⟩
    have g1 : (ρ'.zip σ ++ (tm ++ [(tmpOf r1, some x1)]))[(ρ'.zip σ ++ tm).length]? = some (tmpOf r1, some x1) := by
      rw [← List.append_assoc]; exact app_last
    have q1 := B3.rq g1 k1 h4
    rw [← List.append_assoc] at B3
    have := sl_ok B3.pop q1 h5 fun z H' F' B' => k z H' F' (by rw [tmp_sl]; exact B') (sl_pk v σ z)
    unfold rSl at this
    rw [hK] at this
    exact this
end
end PL
set_option Elab.async false
set_option linter.all false
set_option maxRecDepth 100000
set_option maxHeartbeats 4000000
/-! PLe: argument lists, displays, built-in functions, isinstance. -/
namespace PL
open PySem PySem.Spec PyProof.Rows L2

def aNil : PFs := fun ρ => some ([], ρ)
def aCons (f : PF) (fs : PFs) : PFs := fun ρ => (f ρ).bind fun x => (fs x.2).map fun y => (x.1 :: y.1, y.2)
/-- contents as values that stay (own lists are frozen) -/
def valOf : Sl → Option PV
  | .fz p => some p
  | .own xs => some (.lst xs)
  | _ => none
def valsOf : List Sl → Option (List PV)
  | [] => some []
  | s :: r => (valOf s).bind fun p => (valsOf r).map fun ps => p :: ps

section
variable {X : Cx} {R : RE} {a b : Expr} {es : List Expr} {fa fb : PF} {fs : PFs} {pos : Pos}
theorem av_nil : Av X R [] aNil := ⟨fun ρ r ρ' h => by cases h; rfl, fun ρ r ρ' h => by cases h; rfl, pa_mono pa_nil fun σ H Q h => by
  obtain ⟨e, F, ρ, tm, rs, ρ', hl, hB, hf, k⟩ := h
  cases hf
  exact k [] H F (by simpa using hB) .nil⟩
theorem aCons_some {ρ ρ' : List Sl} {rs : List Sl} (h : aCons fa fs ρ = some (rs, ρ')) : ∃ r ρ1 r', fa ρ = some (r, ρ1) ∧ fs ρ1 = some (r', ρ') ∧ rs = r :: r' := by
  unfold aCons at h
  rw [Option.bind_eq_some_iff] at h
  obtain ⟨⟨r, ρ1⟩, h1, h⟩ := h
  rw [Option.map_eq_some_iff] at h
  obtain ⟨⟨r', ρ2⟩, h2, h⟩ := h
  cases h
  exact ⟨r, ρ1, r', h1, h2, rfl⟩
theorem av_cons (ha : Ev X R a fa) (hs : Av X R es fs) (hst : starEach (a :: es) X.env = (false, eval a X.env) :: starEach es X.env := by rfl) : Av X R (a :: es) (aCons fa fs) := by
  refine ⟨fun ρ r ρ' h => ?_, fun ρ r ρ' h => ?_, pa_mono (pa_cons ha.pe hs.pa hst) fun σ H Q h => ?_⟩
  · obtain ⟨r, ρ1, r', h1, h2, _⟩ := aCons_some h
    exact (hs.len _ _ _ h2).trans (ha.len _ _ _ h1)
  · obtain ⟨r, ρ1, r', h1, h2, rfl⟩ := aCons_some h
    rw [List.length_cons, List.length_cons, hs.cnt _ _ _ h2]
  · obtain ⟨e, F, ρ, tm, rs, ρ', hl, hB, hf, k⟩ := h
    obtain ⟨r, ρ1, r', h1, h2, rfl⟩ := aCons_some hf
    have l1 := ha.len _ _ _ h1
    refine ⟨e, F, ρ, tm, r, ρ1, hl, hB, h1, fun x H1 F1 B1 k1 => ?_⟩
    rw [List.append_assoc] at B1
    refine ⟨e, F1, ρ1, _, r', ρ', l1.trans hl, B1, h2, fun xs H2 F2 B2 k2 => k (x :: xs) H2 F2 ?_ (.cons k1 k2)⟩
    have e1 : ((r :: r').map tmpOf).zip ((x :: xs).map some) = [(tmpOf r, some x)] ++ (r'.map tmpOf).zip (xs.map some) := rfl
    rw [e1]
    rw [← List.append_assoc]
    rw [← List.append_assoc] at B2
    exact B2
end

/-- the values of temporaries, frozen -/
theorem Bag.vals {R : RE} {e : En} {H : Hp} : ∀ {rs : List Sl} {xs : List V} {F : Hp} {B : Bg} {ps : List PV}, Bag R e F H (B ++ rs.zip (xs.map some)) → rs.length = xs.length → valsOf rs = some ps → ∃ F', Sub F F' ∧ Bag R e F' H B ∧ RpL R F' ps xs
  | [], [], F, B, ps, hB, _, h => by
    cases h
    exact ⟨F, .refl, by simpa using hB, .nil⟩
  | [], _ :: _, _, _, _, _, l, _ => by cases l
  | _ :: _, [], _, _, _, _, l, _ => by cases l
  | r :: rs, x :: xs, F, B, ps, hB, l, h => by
    unfold valsOf at h
    rw [Option.bind_eq_some_iff] at h
    obtain ⟨p, h1, h⟩ := h
    rw [Option.map_eq_some_iff] at h
    obtain ⟨ps', h2, rfl⟩ := h
    have e1 : (B ++ (r :: rs).zip ((x :: xs).map some)) = (B ++ [(r, some x)]) ++ rs.zip (xs.map some) := by
      rw [List.append_assoc]; rfl
    rw [e1] at hB
    obtain ⟨F1, s1, B1, q1⟩ := Bag.vals hB (by simpa using l) h2
    cases r with
    | fz p' =>
      cases h1
      obtain ⟨y, ey, q⟩ := B1.all _ _ _ app_last
      cases ey
      exact ⟨F1, s1, B1.pop, .cons q q1⟩
    | own zs =>
      cases h1
      obtain ⟨F2, s2, B2⟩ := B1.freeze app_last
      rw [List.set_append_right _ _ (Nat.le_refl _), Nat.sub_self] at B2
      obtain ⟨y, ey, q⟩ := B2.all _ _ _ app_last
      cases ey
      exact ⟨F2, s1.trans s2, B2.pop, .cons q (q1.mono s2)⟩
    | _ => cases h1
theorem valOf_tmp {s : Sl} {p : PV} (h : valOf s = some p) : tmpOf s = s := by
  cases s <;> first | rfl | cases h
theorem valsOf_tmp : ∀ {rs : List Sl} {ps : List PV}, valsOf rs = some ps → rs.map tmpOf = rs
  | [], _, _ => rfl
  | r :: rs, ps, h => by
    unfold valsOf at h
    rw [Option.bind_eq_some_iff] at h
    obtain ⟨p, h1, h⟩ := h
    rw [Option.map_eq_some_iff] at h
    obtain ⟨ps', h2, rfl⟩ := h
    rw [List.map_cons, valOf_tmp h1, valsOf_tmp h2]
theorem valsOf_len : ∀ {rs : List Sl} {ps : List PV}, valsOf rs = some ps → rs.length = ps.length
  | [], _, h => by cases h; rfl
  | r :: rs, ps, h => by
    unfold valsOf at h
    rw [Option.bind_eq_some_iff] at h
    obtain ⟨p, h1, h⟩ := h
    rw [Option.map_eq_some_iff] at h
    obtain ⟨ps', h2, rfl⟩ := h
    rw [List.length_cons, List.length_cons, valsOf_len h2]
theorem Paired.len {α β : Type} {P : α → β → Prop} {xs : List α} {ys : List β} (h : Paired P xs ys) : xs.length = ys.length := Paired.length h

/-! ### displays -/
def eTup (fs : PFs) : PF := fun ρ => (fs ρ).bind fun x => (valsOf x.1).bind fun ps => if ps.length ≤ lineN then some (.fz (.tup ps), x.2) else none
def eLst (fs : PFs) : PF := fun ρ => (fs ρ).bind fun x => (valsOf x.1).bind fun ps => if ps.length ≤ lineN then some (.own ps, x.2) else none
section
variable {X : Cx} {R : RE} {a b : Expr} {es : List Expr} {fa fb : PF} {fs : PFs} {pos : Pos}
theorem ev_tup {x1 : Nat} (h : Av X R es fs) : Ev X R (.Tuple es x1 pos) (eTup fs) := by
  have key : ∀ {ρ ρ' : List Sl} {r : Sl}, eTup fs ρ = some (r, ρ') → ∃ rs ps, fs ρ = some (rs, ρ') ∧ valsOf rs = some ps ∧ ps.length ≤ lineN ∧ r = .fz (.tup ps) := by
    intro ρ ρ' r q
    unfold eTup at q
    rw [Option.bind_eq_some_iff] at q
    obtain ⟨⟨rs, ρ1⟩, h1, q⟩ := q
    rw [Option.bind_eq_some_iff] at q
    obtain ⟨ps, h2, q⟩ := q
    split at q
    · cases q; exact ⟨rs, ps, h1, h2, by assumption, rfl⟩
    · cases q
  refine ⟨fun ρ r ρ' q => ?_, pe_mono (pe_tup h.pa) fun σ H Q q => ?_⟩
  · obtain ⟨rs, ps, h1, _⟩ := key q
    exact h.len _ _ _ h1
  · obtain ⟨e, F, ρ, tm, r, ρ', hl, hB, hf, k⟩ := q
    obtain ⟨rs, ps, h1, h2, h3, rfl⟩ := key hf
    refine ⟨e, F, ρ, tm, rs, ρ', hl, hB, h1, fun xs H1 F1 B1 k1 => ?_⟩
    rw [valsOf_tmp h2] at B1
    obtain ⟨F2, s2, B2, q2⟩ := B1.vals (Paired.len k1) h2
    exact ⟨by rw [← q2.length, ← lineN_eq]; exact h3, fun p n => k _ _ _ (B2.new_tup n q2) pk_fz⟩
theorem ev_lst (h : Av X R es fs) : Ev X R (.List es pos) (eLst fs) := by
  have key : ∀ {ρ ρ' : List Sl} {r : Sl}, eLst fs ρ = some (r, ρ') → ∃ rs ps, fs ρ = some (rs, ρ') ∧ valsOf rs = some ps ∧ ps.length ≤ lineN ∧ r = .own ps := by
    intro ρ ρ' r q
    unfold eLst at q
    rw [Option.bind_eq_some_iff] at q
    obtain ⟨⟨rs, ρ1⟩, h1, q⟩ := q
    rw [Option.bind_eq_some_iff] at q
    obtain ⟨ps, h2, q⟩ := q
    split at q
    · cases q; exact ⟨rs, ps, h1, h2, by assumption, rfl⟩
    · cases q
  refine ⟨fun ρ r ρ' q => ?_, pe_mono (pe_lst h.pa) fun σ H Q q => ?_⟩
  · obtain ⟨rs, ps, h1, _⟩ := key q
    exact h.len _ _ _ h1
  · obtain ⟨e, F, ρ, tm, r, ρ', hl, hB, hf, k⟩ := q
    obtain ⟨rs, ps, h1, h2, h3, rfl⟩ := key hf
    refine ⟨e, F, ρ, tm, rs, ρ', hl, hB, h1, fun xs H1 F1 B1 k1 => ?_⟩
    rw [valsOf_tmp h2] at B1
    obtain ⟨F2, s2, B2, q2⟩ := B1.vals (Paired.len k1) h2
    exact ⟨by rw [← q2.length, ← lineN_eq]; exact h3, fun p n => k _ _ _ (B2.new_lst n q2) pk_own⟩
end

/-! ### built-in functions -/
inductive RqL (R : RE) (F H : Hp) : List PV → List V → Prop
  | nil : RqL R F H [] []
  | cons {p : PV} {ps : List PV} {v : V} {vs : List V} : Rq R F H p v → RqL R F H ps vs → RqL R F H (p :: ps) (v :: vs)
def eNary (op : List PV → Option Vl) (fs : PFs) : PF := fun ρ => (fs ρ).bind fun x => (conts x.2 x.1).bind fun ps => (op ps).map fun r => (r.sl, x.2)
def CallOk (R : RE) (op : List PV → Option Vl) (rd : List V → Hp → VK → Prop) : Prop := ∀ (e : En) (F H : Hp) (B : Bg) (ps : List PV) (xs : List V) (r : Vl) (Q : VK), Bag R e F H B → RqL R F H ps xs → op ps = some r →
  (∀ z H' F', Bag R e F' H' (B ++ [(r.sl, some z)]) → Q z H') → rd xs H Q
/-- all temporaries read, then dropped -/
theorem Bag.conts {R : RE} {e : En} {F H : Hp} {ρ : List Sl} {σ : L2.St} : ∀ {rs : List Sl} {xs : List V} {tm : Bg} {ps : List PV}, Bag R e F H (ρ.zip σ ++ tm ++ (rs.map tmpOf).zip (xs.map some)) → Paired (fun r x => PkOk r σ x) rs xs → PL.conts ρ rs = some ps →
    RqL R F H ps xs ∧ Bag R e F H (ρ.zip σ ++ tm)
  | [], [], tm, ps, hB, _, h => by
    cases h
    exact ⟨.nil, by simpa using hB⟩
  | r :: rs, x :: xs, tm, ps, hB, k, h => by
    unfold PL.conts at h
    rw [Option.bind_eq_some_iff] at h
    obtain ⟨p, h1, h⟩ := h
    rw [Option.map_eq_some_iff] at h
    obtain ⟨ps', h2, rfl⟩ := h
    cases k with
    | cons k1 k2 =>
      have e1 : (ρ.zip σ ++ tm ++ ((r :: rs).map tmpOf).zip ((x :: xs).map some)) = ρ.zip σ ++ (tm ++ [(tmpOf r, some x)]) ++ (rs.map tmpOf).zip (xs.map some) := by
        rw [← List.append_assoc (ρ.zip σ), List.append_assoc (ρ.zip σ ++ tm)]; rfl
      rw [e1] at hB
      obtain ⟨q1, B1⟩ := Bag.conts hB k2 h2
      have g1 : (ρ.zip σ ++ (tm ++ [(tmpOf r, some x)]))[(ρ.zip σ ++ tm).length]? = some (tmpOf r, some x) := by
        rw [← List.append_assoc]; exact app_last
      have q := B1.rq g1 k1 h1
      rw [← List.append_assoc] at B1
      exact ⟨.cons q q1, B1.pop⟩
section
variable {X : Cx} {R : RE} {a b : Expr} {es : List Expr} {fa fb : PF} {fs : PFs} {pos p : Pos}
theorem eNary_some {op : List PV → Option Vl} {ρ ρ' : List Sl} {r : Sl} (q : eNary op fs ρ = some (r, ρ')) : ∃ rs ps v, fs ρ = some (rs, ρ') ∧ PL.conts ρ' rs = some ps ∧ op ps = some v ∧ r = v.sl := by
  unfold eNary at q
  rw [Option.bind_eq_some_iff] at q
  obtain ⟨⟨rs, ρ1⟩, h1, q⟩ := q
  rw [Option.bind_eq_some_iff] at q
  obtain ⟨ps, h2, q⟩ := q
  rw [Option.map_eq_some_iff] at q
  obtain ⟨v, h3, q⟩ := q
  cases q
  exact ⟨rs, ps, v, h1, h2, h3, rfl⟩
theorem nary_len {op : List PV → Option Vl} (l : ∀ ρ r ρ', fs ρ = some (r, ρ') → ρ'.length = ρ.length) : ∀ ρ r ρ', eNary op fs ρ = some (r, ρ') → ρ'.length = ρ.length := fun ρ r ρ' q => by
  obtain ⟨rs, ps, v, h1, _⟩ := eNary_some q
  exact l _ _ _ h1
theorem tCB_of {op : List PV → Option Vl} {rd : List V → Hp → VK → Prop} (ho : CallOk R op rd) (σ : L2.St) (H : Hp) (Q : VK) (h : TEv R (eNary op fs) σ H Q) : tCB rd (TAv R fs) σ H Q := by
  obtain ⟨e, F, ρ, tm, r, ρ', hl, hB, hf, k⟩ := h
  obtain ⟨rs, ps, v, h1, h2, h3, rfl⟩ := eNary_some hf
  refine ⟨e, F, ρ, tm, rs, ρ', hl, hB, h1, fun xs H1 F1 B1 k1 => ?_⟩
  obtain ⟨q, B2⟩ := Bag.conts B1 k1 h2
  exact ho e F1 H1 _ ps xs v Q B2 q h3 fun z H' F' B' => k z H' F' (by rw [tmp_sl]; exact B') (sl_pk v σ z)
/-- f(e, ..), f a built-in function -/
theorem ev_callB {id : String} {x : Str} {op : List PV → Option Vl} {rd : List V → Hp → VK → Prop} (hc : CallR X (.builtin id) rd) (ho : CallOk R op rd) (hg : Gl X x) (hm : X.mg x = none) (hv : bootBuiltins x = some (.builtin id)) (h : Av X R (a :: es) fs)
    (hn : x ≠ "__name__" := by decide) (hdb : (x == ("__debug__" : Str)) = false := by decide) (he : starEach (a :: es) X.env = (false, eval a X.env) :: starEach es X.env := by rfl) (hpl : (backTo pos (starEach es X.env)).any (·.1) = false := by rfl) :
    Ev X R (.Call (.Name x p) (a :: es) [] pos) (eNary op fs) := ⟨nary_len h.len, pe_mono (pe_callB hc hg hm hv h.pa hn hdb he hpl) (tCB_of ho)⟩
/-- T(e, ..), T a built-in type -/
theorem ev_callTy {T : String} {x : Str} {op : List PV → Option Vl} {rd : List V → Hp → VK → Prop} (hc : CallR X (.type T) rd) (ho : CallOk R op rd) (hg : Gl X x) (hm : X.mg x = none) (hv : bootBuiltins x = some (.type T)) (h : Av X R (a :: es) fs)
    (hn : x ≠ "__name__" := by decide) (hdb : (x == ("__debug__" : Str)) = false := by decide) (he : starEach (a :: es) X.env = (false, eval a X.env) :: starEach es X.env := by rfl) (hpl : (backTo pos (starEach es X.env)).any (·.1) = false := by rfl) :
    Ev X R (.Call (.Name x p) (a :: es) [] pos) (eNary op fs) := ⟨nary_len h.len, pe_mono (pe_callTy hc hg hm hv h.pa hn hdb he hpl) (tCB_of ho)⟩
end

/-! ### which -/
theorem RqL.one {R : RE} {F H : Hp} {p : PV} {xs : List V} (h : RqL R F H [p] xs) : ∃ x, xs = [x] ∧ Rq R F H p x := by
  cases h with
  | cons q r => cases r; exact ⟨_, rfl, q⟩
theorem RqL.two {R : RE} {F H : Hp} {p q : PV} {xs : List V} (h : RqL R F H [p, q] xs) : ∃ x y, xs = [x, y] ∧ Rq R F H p x ∧ Rq R F H q y := by
  cases h with
  | cons q r =>
    cases r with
    | cons q2 r => cases r; exact ⟨_, _, rfl, q, q2⟩
theorem sub_len {R : RE} {F : Hp} {ps : List PV} {vs : List V} (h : RpL R F ps vs) : vs.length = ps.length := h.length.symm
def clLen : List PV → Option Vl
  | [.lst xs] => some (.fz (.int xs.length))
  | [.tup xs] => some (.fz (.int xs.length))
  | [.scr xs] => some (.fz (.int xs.length))
  | [.str z] => if z.length ≤ lineN then some (.fz (.int z.length)) else none
  | _ => none
theorem cok_len {R : RE} : CallOk R clLen (fun xs H Q => ∃ x n, xs = [x] ∧ LenV R.K x H n ∧ Q (.int n) H) := by
  intro e F H B ps xs r Q hB hp ho k
  unfold clLen at ho
  split at ho
  · cases ho
    obtain ⟨x, rfl, q⟩ := hp.one
    obtain ⟨a, vs, rfl, h1, r1⟩ := q.lst hB.sub
    exact ⟨_, _, rfl, .inl ⟨vs, SqL.of h1, r1.length⟩, k _ H F (hB.push_fz (.int _))⟩
  · cases ho
    obtain ⟨x, rfl, q⟩ := hp.one
    obtain ⟨a, vs, rfl, h1, r1⟩ := q.tup hB.sub
    exact ⟨_, _, rfl, .inr ⟨vs, h1, r1.length⟩, k _ H F (hB.push_fz (.int _))⟩
  · cases ho
    obtain ⟨x, rfl, q⟩ := hp.one
    obtain ⟨a, vs, rfl, h1, r1⟩ := q.scr hB.sub
    exact ⟨_, _, rfl, .inl ⟨vs, h1, r1.length⟩, k _ H F (hB.push_fz (.int _))⟩
  · rename_i z
    split at ho
    · rename_i c
      cases ho
      obtain ⟨x, rfl, q⟩ := hp.one
      rw [q.str]
      exact ⟨_, _, rfl, ⟨by rw [← lineN_eq]; exact c, rfl⟩, k _ H F (hB.push_fz (.int _))⟩
    · cases ho
  · cases ho
def clAbs : List PV → Option Vl
  | [.int i] => some (.fz (.int (if i < 0 then -i else i)))
  | _ => none
theorem cok_abs {R : RE} : CallOk R clAbs (fun xs H Q => ∃ i, xs = [.int i] ∧ Q (.int (if i < 0 then -i else i)) H) := by
  intro e F H B ps xs r Q hB hp ho k
  unfold clAbs at ho
  split at ho
  · cases ho
    obtain ⟨x, rfl, q⟩ := hp.one
    rw [q.int]
    exact ⟨_, rfl, k _ H F (hB.push_fz (.int _))⟩
  · cases ho
def clInt : List PV → Option Vl
  | [.int i] => some (.fz (.int i))
  | [.bl b] => some (.fz (.int (if b then 1 else 0)))
  | _ => none
theorem cok_int {R : RE} : CallOk R clInt (fun xs H Q => (∃ i, xs = [.int i] ∧ Q (.int i) H) ∨ ∃ k, xs = [.bl k] ∧ Q (.int (if k then 1 else 0)) H) := by
  intro e F H B ps xs r Q hB hp ho k
  unfold clInt at ho
  split at ho
  · cases ho
    obtain ⟨x, rfl, q⟩ := hp.one
    rw [q.int]
    exact .inl ⟨_, rfl, k _ H F (hB.push_fz (.int _))⟩
  · cases ho
    obtain ⟨x, rfl, q⟩ := hp.one
    rw [q.bl]
    exact .inr ⟨_, rfl, k _ H F (hB.push_fz (.int _))⟩
  · cases ho
/-- ints of a list -/
def intsOf : List PV → Option (List Int)
  | [] => some []
  | .int i :: r => (intsOf r).map fun is => i :: is
  | _ :: _ => none
theorem intsOf_eq : ∀ {ps : List PV} {ns : List Int}, intsOf ps = some ns → ps = ns.map PV.int
  | [], ns, h => by cases h; rfl
  | p :: ps, ns, h => by
    cases p with
    | int i =>
      unfold intsOf at h
      rw [Option.map_eq_some_iff] at h
      obtain ⟨is, h1, rfl⟩ := h
      rw [intsOf_eq h1]; rfl
    | _ => cases h
theorem intsOf_map : ∀ ns : List Int, intsOf (ns.map PV.int) = some ns
  | [] => rfl
  | n :: ns => by rw [List.map_cons, intsOf, intsOf_map ns]; rfl
def blsOf : List PV → Option (List Bool)
  | [] => some []
  | .bl i :: r => (blsOf r).map fun is => i :: is
  | _ :: _ => none
theorem blsOf_eq : ∀ {ps : List PV} {ns : List Bool}, blsOf ps = some ns → ps = ns.map PV.bl
  | [], ns, h => by cases h; rfl
  | p :: ps, ns, h => by
    cases p with
    | bl i =>
      unfold blsOf at h
      rw [Option.map_eq_some_iff] at h
      obtain ⟨is, h1, rfl⟩ := h
      rw [blsOf_eq h1]; rfl
    | _ => cases h
theorem blsOf_map : ∀ ns : List Bool, blsOf (ns.map PV.bl) = some ns
  | [] => rfl
  | n :: ns => by rw [List.map_cons, blsOf, blsOf_map ns]; rfl
/-- the greatest, the least of a list that is not empty -/
def maxL : List Int → Int
  | [] => 0
  | [x] => x
  | x :: r => max x (maxL r)
def minL : List Int → Int
  | [] => 0
  | [x] => x
  | x :: r => min x (minL r)
theorem maxL_ge : ∀ {ns : List Int} {y : Int}, y ∈ ns → y ≤ maxL ns
  | [x], y, h => by simp at h; subst h; exact Int.le_refl _
  | x :: z :: r, y, h => by
    show y ≤ max x (maxL (z :: r))
    rcases List.mem_cons.mp h with rfl | h
    · omega
    · have := maxL_ge h; omega
theorem minL_le : ∀ {ns : List Int} {y : Int}, y ∈ ns → minL ns ≤ y
  | [x], y, h => by simp at h; subst h; exact Int.le_refl _
  | x :: z :: r, y, h => by
    show min x (minL (z :: r)) ≤ y
    rcases List.mem_cons.mp h with rfl | h
    · omega
    · have := minL_le h; omega
theorem maxL_mem : ∀ {ns : List Int}, ns ≠ [] → maxL ns ∈ ns
  | [], h => absurd rfl h
  | [x], _ => by simp [maxL]
  | x :: z :: r, _ => by
    show max x (maxL (z :: r)) ∈ _
    have := maxL_mem (ns := z :: r) (by simp)
    rcases Int.le_total x (maxL (z :: r)) with h | h
    · rw [Int.max_eq_right h]; exact List.mem_cons_of_mem _ this
    · rw [Int.max_eq_left h]; exact List.mem_cons_self
theorem minL_mem : ∀ {ns : List Int}, ns ≠ [] → minL ns ∈ ns
  | [], h => absurd rfl h
  | [x], _ => by simp [minL]
  | x :: z :: r, _ => by
    show min x (minL (z :: r)) ∈ _
    have := minL_mem (ns := z :: r) (by simp)
    rcases Int.le_total x (minL (z :: r)) with h | h
    · rw [Int.min_eq_left h]; exact List.mem_cons_self
    · rw [Int.min_eq_right h]; exact List.mem_cons_of_mem _ this
def clMax : List PV → Option Vl
  | [.int i, .int j] => some (.fz (.int (max i j)))
  | [.lst xs] => (intsOf xs).bind fun ns => if ns.isEmpty then none else some (.fz (.int (maxL ns)))
  | _ => none
def clMin : List PV → Option Vl
  | [.int i, .int j] => some (.fz (.int (min i j)))
  | [.lst xs] => (intsOf xs).bind fun ns => if ns.isEmpty then none else some (.fz (.int (minL ns)))
  | _ => none
theorem cok_max {R : RE} : CallOk R clMax (fun xs H Q => (∃ i j, xs = [.int i, .int j] ∧ Q (.int (if j > i then j else i)) H) ∨ rMax R.K xs H Q) := by
  intro e F H B ps xs r Q hB hp ho k
  unfold clMax at ho
  split at ho
  · rename_i i j
    cases ho
    obtain ⟨x, y, rfl, q1, q2⟩ := hp.two
    rw [q1.int, q2.int]
    refine .inl ⟨i, j, rfl, ?_⟩
    have em : (if j > i then j else i) = max i j := by split <;> omega
    rw [em]
    exact k _ H F (hB.push_fz (.int _))
  · rename_i zs
    rw [Option.bind_eq_some_iff] at ho
    obtain ⟨ns, h1, ho⟩ := ho
    split at ho
    · cases ho
    · rename_i c
      cases ho
      obtain ⟨x, rfl, q⟩ := hp.one
      obtain ⟨a, vs, rfl, h2, r1⟩ := q.lst hB.sub
      rw [intsOf_eq h1] at r1
      rw [r1.ints] at h2
      have hne : ns ≠ [] := fun z => by rw [z] at c; exact c rfl
      refine .inr ⟨a, ns, rfl, SqL.of h2, by cases ns with | nil => exact absurd rfl hne | cons _ _ => simp, fun m hm hle => ?_⟩
      have em : m = maxL ns := by
        have h3 := maxL_ge hm
        have h4 := hle _ (maxL_mem hne)
        omega
      rw [em]
      exact k _ H F (hB.push_fz (.int _))
  · cases ho
theorem cok_min {R : RE} : CallOk R clMin (fun xs H Q => (∃ i j, xs = [.int i, .int j] ∧ Q (.int (if j < i then j else i)) H) ∨ rMin R.K xs H Q) := by
  intro e F H B ps xs r Q hB hp ho k
  unfold clMin at ho
  split at ho
  · rename_i i j
    cases ho
    obtain ⟨x, y, rfl, q1, q2⟩ := hp.two
    rw [q1.int, q2.int]
    refine .inl ⟨i, j, rfl, ?_⟩
    have em : (if j < i then j else i) = min i j := by split <;> omega
    rw [em]
    exact k _ H F (hB.push_fz (.int _))
  · rename_i zs
    rw [Option.bind_eq_some_iff] at ho
    obtain ⟨ns, h1, ho⟩ := ho
    split at ho
    · cases ho
    · rename_i c
      cases ho
      obtain ⟨x, rfl, q⟩ := hp.one
      obtain ⟨a, vs, rfl, h2, r1⟩ := q.lst hB.sub
      rw [intsOf_eq h1] at r1
      rw [r1.ints] at h2
      have hne : ns ≠ [] := fun z => by rw [z] at c; exact c rfl
      refine .inr ⟨a, ns, rfl, SqL.of h2, by cases ns with | nil => exact absurd rfl hne | cons _ _ => simp, fun m hm hle => ?_⟩
      have em : m = minL ns := by
        have h3 := minL_le hm
        have h4 := hle _ (minL_mem hne)
        omega
      rw [em]
      exact k _ H F (hB.push_fz (.int _))
  · cases ho
theorem callr_max {X : Cx} (hc : X.calm = true) : CallR X (.builtin "max") (fun xs H Q => (∃ i j, xs = [.int i, .int j] ∧ Q (.int (if j > i then j else i)) H) ∨ rMax X.K xs H Q) := (call_max2 hc).or (cr_max hc)
theorem callr_min {X : Cx} (hc : X.calm = true) : CallR X (.builtin "min") (fun xs H Q => (∃ i j, xs = [.int i, .int j] ∧ Q (.int (if j < i then j else i)) H) ∨ rMin X.K xs H Q) := (call_min2 hc).or (cr_min hc)
def clSum : List PV → Option Vl
  | [.lst xs] => (intsOf xs).map fun ns => .fz (.int ns.sum)
  | _ => none
theorem cok_sum {R : RE} : CallOk R clSum (rSum R.K) := by
  intro e F H B ps xs r Q hB hp ho k
  unfold clSum at ho
  split at ho
  · rename_i zs
    rw [Option.map_eq_some_iff] at ho
    obtain ⟨ns, h1, rfl⟩ := ho
    obtain ⟨x, rfl, q⟩ := hp.one
    obtain ⟨a, vs, rfl, h2, r1⟩ := q.lst hB.sub
    rw [intsOf_eq h1] at r1
    rw [r1.ints] at h2
    exact ⟨a, ns, rfl, SqL.of h2, k _ H F (hB.push_fz (.int _))⟩
  · cases ho
def clAll : List PV → Option Vl
  | [.lst xs] => (blsOf xs).map fun ns => .fz (.bl (ns.all id))
  | _ => none
def clAny : List PV → Option Vl
  | [.lst xs] => (blsOf xs).map fun ns => .fz (.bl (ns.any id))
  | _ => none
theorem cok_all {R : RE} : CallOk R clAll (rAll R.K) := by
  intro e F H B ps xs r Q hB hp ho k
  unfold clAll at ho
  split at ho
  · rename_i zs
    rw [Option.map_eq_some_iff] at ho
    obtain ⟨ns, h1, rfl⟩ := ho
    obtain ⟨x, rfl, q⟩ := hp.one
    obtain ⟨a, vs, rfl, h2, r1⟩ := q.lst hB.sub
    rw [blsOf_eq h1] at r1
    rw [r1.bls] at h2
    exact ⟨a, ns, rfl, SqL.of h2, k _ H F (hB.push_fz (.bl _))⟩
  · cases ho
theorem cok_any {R : RE} : CallOk R clAny (rAny R.K) := by
  intro e F H B ps xs r Q hB hp ho k
  unfold clAny at ho
  split at ho
  · rename_i zs
    rw [Option.map_eq_some_iff] at ho
    obtain ⟨ns, h1, rfl⟩ := ho
    obtain ⟨x, rfl, q⟩ := hp.one
    obtain ⟨a, vs, rfl, h2, r1⟩ := q.lst hB.sub
    rw [blsOf_eq h1] at r1
    rw [r1.bls] at h2
    exact ⟨a, ns, rfl, SqL.of h2, k _ H F (hB.push_fz (.bl _))⟩
  · cases ho
def clTuple : List PV → Option Vl
  | [.lst xs] => some (.fz (.tup xs))
  | [.tup xs] => some (.fz (.tup xs))
  | _ => none
theorem cok_tuple {R : RE} : CallOk R clTuple (fun xs H Q => ∃ p ys, xs = [.ref p] ∧ ((SqL R.K H p ys ∧ ∀ l, H l = none → Q (.ref l) (upd H l (.tup ys))) ∨ (SqT R.K H p ys ∧ Q (.ref p) H))) := by
  intro e F H B ps xs r Q hB hp ho k
  unfold clTuple at ho
  split at ho
  · cases ho
    obtain ⟨x, rfl, q⟩ := hp.one
    obtain ⟨a, vs, rfl, h2, r1⟩ := q.lst hB.sub
    exact ⟨a, vs, rfl, .inl ⟨SqL.of h2, fun l n => k _ _ _ (hB.new_tup n r1)⟩⟩
  · cases ho
    obtain ⟨x, rfl, q⟩ := hp.one
    have q' := q
    obtain ⟨a, vs, rfl, h2, r1⟩ := q.tup hB.sub
    rcases q' with h | ⟨_, _, _, _, z, _⟩
    · exact ⟨a, vs, rfl, .inr ⟨h2, k _ H F (hB.push_fz h)⟩⟩
    · cases z
  · cases ho
def clList : List PV → Option Vl
  | [.lst xs] => some (.own xs)
  | [.tup xs] => some (.own xs)
  | [.scr xs] => some (.own xs)
  | _ => none
theorem cok_list {R : RE} : CallOk R clList (fun xs H Q => ∃ p ys, xs = [.ref p] ∧ (SqL R.K H p ys ∨ SqT R.K H p ys) ∧ ∀ l, H l = none → Q (.ref l) (upd H l (.lst ys))) := by
  intro e F H B ps xs r Q hB hp ho k
  unfold clList at ho
  split at ho
  · cases ho
    obtain ⟨x, rfl, q⟩ := hp.one
    obtain ⟨a, vs, rfl, h2, r1⟩ := q.lst hB.sub
    exact ⟨a, vs, rfl, .inl (SqL.of h2), fun l n => k _ _ _ (hB.new_lst n r1)⟩
  · cases ho
    obtain ⟨x, rfl, q⟩ := hp.one
    obtain ⟨a, vs, rfl, h2, r1⟩ := q.tup hB.sub
    exact ⟨a, vs, rfl, .inr h2, fun l n => k _ _ _ (hB.new_lst n r1)⟩
  · cases ho
    obtain ⟨x, rfl, q⟩ := hp.one
    obtain ⟨a, vs, rfl, h2, r1⟩ := q.scr hB.sub
    exact ⟨a, vs, rfl, .inl h2, fun l n => k _ _ _ (hB.new_lst n r1)⟩
  · cases ho

/-! ### isinstance -/
def tyP : PV → Option Ty
  | .non => some .non
  | .bl _ => some .bool
  | .int _ => some .int
  | .str _ => some .str
  | .tup _ => some .tuple
  | .lst _ => some .list
  | .scr _ => some .list
  | _ => none
def subTy : Ty → Ty → Bool
  | .bool, .int => true
  | a, b => decide (a = b)
theorem kit_sub : ∀ a b : Ty, b ≠ .non → kitB a.nm b.nm = some (subTy a b) := by
  intro a b h
  cases a <;> cases b <;> first | exact absurd rfl h | decide +kernel
/-- isinstance(p, t) -/
def isTy (p : PV) (t : Ty) : Option Bool := if t = .non then none else (tyP p).map fun s => subTy s t
def isAny (p : PV) : List PV → Option Bool
  | [] => some false
  | .ty t :: r => (isTy p t).bind fun b => (isAny p r).map fun c => b || c
  | _ :: _ => none
def clIsi : List PV → Option Vl
  | [p, .ty t] => (isTy p t).map fun b => .fz (.bl b)
  | [p, .tup (t :: ts)] => (isAny p (t :: ts)).map fun b => .fz (.bl b)
  | _ => none
theorem tyx_of {R : RE} {H : Hp} {p : PV} {x : V} {t : Ty} (h : Rp R H p x) (e : tyP p = some t) : TyX R.K H x (.type t.nm) := by
  cases h with
  | non => cases e; exact .base .non
  | bl b => cases e; exact .base (.bl b)
  | int i => cases e; exact .base (.int i)
  | str i => cases e; exact .base (.str i)
  | tup q r =>
    cases e
    rcases q with q | ⟨o, its, n, q1, q2, _⟩
    · exact .base (.tup q)
    · exact .kTuple q1 q2
  | lst q r => cases e; exact .base (.lst q)
  | scr q r =>
    cases e
    rcases q with (q | ⟨o, q⟩) | ⟨o, its, n, q1, q2, _⟩
    · exact .base (.lst q)
    · exact .base (.frz q)
    · exact .kList q1 q2
  | _ => cases e
theorem isTy_ok {R : RE} {p : PV} {s t : Ty} {b : Bool} (hs : tyP p = some s) (h : isTy p t = some b) : PySem.W.kitOne R.K (.type s.nm) (.type t.nm) = some b := by
  unfold isTy at h
  rw [hs] at h
  by_cases ht : t = .non
  · rw [if_pos ht] at h; cases h
  · rw [if_neg ht] at h
    cases h
    exact kit_ty (kit_sub s t ht)
theorem isTy_ty {p : PV} {t : Ty} {b : Bool} (h : isTy p t = some b) : ∃ s, tyP p = some s := by
  unfold isTy at h
  split at h
  · cases h
  · rw [Option.map_eq_some_iff] at h
    obtain ⟨s, h, _⟩ := h
    exact ⟨s, h⟩
theorem isAny_ok {R : RE} {F : Hp} {p : PV} {s : Ty} (hs : tyP p = some s) : ∀ {ts : List PV} {vs : List V} {b : Bool}, RpL R F ts vs → isAny p ts = some b → ∃ us, Paired ClsV vs us ∧ PySem.W.kitAny R.K (.type s.nm) us = some b
  | [], _, b, .nil, h => by cases h; exact ⟨[], .nil, kitAny_nil⟩
  | q :: ts, _, b, .cons r1 r2, h => by
    cases r1 with
    | ty t =>
      unfold isAny at h
      rw [Option.bind_eq_some_iff] at h
      obtain ⟨b1, h1, h⟩ := h
      rw [Option.map_eq_some_iff] at h
      obtain ⟨c, h2, h⟩ := h
      obtain ⟨us, u1, u2⟩ := isAny_ok hs r2 h2
      have hk := isTy_ok (R := R) hs h1
      refine ⟨_, .cons (.ty _) u1, kitAny_cons hk (fun z => ?_) fun z => ?_⟩
      · rw [z] at h; rw [u2, ← h]; rfl
      · rw [z] at h; rw [← h]; rfl
    | _ => cases h
theorem cok_isi {R : RE} : CallOk R clIsi (fun xs H Q => rIsi R.K xs H Q ∨ (rIsiT R.K xs H Q ∨ rIsiK R.K xs H Q)) := by
  intro e F H B ps xs r Q hB hp ho k
  unfold clIsi at ho
  split at ho
  · rename_i p t
    rw [Option.map_eq_some_iff] at ho
    obtain ⟨b, h1, rfl⟩ := ho
    obtain ⟨x, y, rfl, q1, q2⟩ := hp.two
    obtain ⟨s, hs⟩ := isTy_ty h1
    have q2' := q2.rp hB.sub
    cases q2'
    exact .inl ⟨x, _, _, _, b, rfl, .ty _, tyx_of (q1.rp hB.sub) hs, isTy_ok hs h1, k _ H F (hB.push_fz (.bl _))⟩
  · rename_i p t0 ts
    rw [Option.map_eq_some_iff] at ho
    obtain ⟨b, h1, rfl⟩ := ho
    obtain ⟨x, y, rfl, q1, q2⟩ := hp.two
    cases q2.rp hB.sub with
    | tup q3 r1 =>
      cases hs : tyP p with
      | none =>
        unfold isAny at h1
        split at h1
        · rename_i e1; cases e1
        · rename_i t r e1
          rw [Option.bind_eq_some_iff] at h1
          obtain ⟨b1, h3, _⟩ := h1
          obtain ⟨s, hs'⟩ := isTy_ty h3
          rw [hs] at hs'; cases hs'
        · cases h1
      | some s =>
        obtain ⟨us, u1, u2⟩ := isAny_ok hs r1 h1
        have ty := tyx_of (q1.rp hB.sub) hs
        have fin : Q (.bl b) H := k _ H F (hB.push_fz (.bl _))
        rcases q3 with q3 | ⟨⟨oc, od, dt, sl⟩, its, n, e1, e2, e3, e4, e5⟩
        · exact .inr (.inl ⟨x, _, _, _, us, b, rfl, q3, u1, ty, u2, fin⟩)
        · simp only at e2 e3
          subst e2 e3
          have e6 := ClsV.all u1 e5
          refine .inr (.inr ⟨x, _, od, us, n, sl, _, b, rfl, ?_, ty, u2, fin⟩)
          rw [e1, ← e6]
  · cases ho
end PL
set_option Elab.async false
set_option linter.all false
set_option maxRecDepth 100000
set_option maxHeartbeats 4000000
/-! PLf: bags rearranged; calls of defs; instances. -/
namespace PL
open PySem PySem.Spec PyProof.Rows L2

section
variable {R : RE} {e : En} {F H : Hp} {B : Bg}
def Apart (p q : Sl × Option V) : Prop := ∀ a, adr p.1 p.2 = some a → adr q.1 q.2 ≠ some a
theorem Bag.apart (h : Bag R e F H B) : B.Pairwise Apart := by
  rw [List.pairwise_iff_getElem]
  intro i j hi hj hij a h1 h2
  have := h.dis i j B[i].1 B[j].1 B[i].2 B[j].2 a (List.getElem?_eq_getElem hi) (List.getElem?_eq_getElem hj) h1 h2
  omega
theorem Bag.mem (h : Bag R e F H B) {p : Sl × Option V} (hp : p ∈ B) : SlR R F H p.1 p.2 := by
  obtain ⟨i, hi, rfl⟩ := List.getElem_of_mem hp
  exact h.all i _ _ (List.getElem?_eq_getElem hi)
theorem Bag.mem_ow (h : Bag R e F H B) {p : Sl × Option V} (hp : p ∈ B) {a : Addr} (ha : adr p.1 p.2 = some a) : e.H a = none ∨ a ∈ e.W := by
  obtain ⟨i, hi, rfl⟩ := List.getElem_of_mem hp
  exact h.ow i _ _ a (List.getElem?_eq_getElem hi) ha
/-- another bag over the same heaps -/
theorem Bag.of (h : Bag R e F H B) {C : Bg} (hs : ∀ p ∈ C, SlR R F H p.1 p.2) (ha : C.Pairwise Apart) (ho : ∀ p ∈ C, ∀ a, adr p.1 p.2 = some a → e.H a = none ∨ a ∈ e.W) : Bag R e F H C := by
  refine ⟨h.sub, fun i s o g => hs (s, o) (List.mem_of_getElem? g), fun i j s t o u a g1 g2 a1 a2 => ?_, h.fr, h.frW, fun i s o a g a1 => ho (s, o) (List.mem_of_getElem? g) a a1, h.hf, h.hf0⟩
  rw [List.pairwise_iff_getElem] at ha
  obtain ⟨hi, ei⟩ := List.getElem?_eq_some_iff.mp g1
  obtain ⟨hj, ej⟩ := List.getElem?_eq_some_iff.mp g2
  rcases Nat.lt_trichotomy i j with z | z | z
  · exact absurd (by rw [ej]; exact a2) (ha i j hi hj z a (by rw [ei]; exact a1))
  · exact z
  · exact absurd (by rw [ei]; exact a1) (ha j i hj hi z a (by rw [ej]; exact a2))
theorem Bag.perm (h : Bag R e F H B) {C : Bg} (p : B.Perm C) : Bag R e F H C :=
  h.of (fun q hq => h.mem (p.mem_iff.mpr hq)) (h.apart.perm p fun {x y} z a h1 h2 => z a h2 h1) fun q hq a => h.mem_ow (p.mem_iff.mpr hq)
theorem Bag.sublist (h : Bag R e F H B) {C : Bg} (p : C.Sublist B) : Bag R e F H C :=
  h.of (fun q hq => h.mem (p.subset hq)) (h.apart.sublist p) fun q hq a => h.mem_ow (p.subset hq)
/-- at each place the old content, or one that owns nothing -/
theorem Bag.repl (h : Bag R e F H B) {C : Bg} (r : ∀ (i : Nat) (p : Sl × Option V), C[i]? = some p → B[i]? = some p ∨ (adr p.1 p.2 = none ∧ SlR R F H p.1 p.2)) : Bag R e F H C := by
  refine ⟨h.sub, fun i s o g => ?_, fun i j s t o u a g1 g2 a1 a2 => ?_, h.fr, h.frW, fun i s o a g a1 => ?_, h.hf, h.hf0⟩
  · rcases r i _ g with z | z
    · exact h.all i s o z
    · exact z.2
  · rcases r i _ g1 with z | z
    · rcases r j _ g2 with y | y
      · exact h.dis i j s t o u a z y a1 a2
      · rw [a2] at y; cases y.1
    · rw [a1] at z; cases z.1
  · rcases r i _ g with z | z
    · exact h.ow i s o a z a1
    · rw [a1] at z; cases z.1
theorem Bag.drop_mid {C : Bg} {p : Sl × Option V} (h : Bag R e F H (B ++ p :: C)) : Bag R e F H (B ++ C) :=
  h.sublist ((List.Sublist.refl B).append (List.sublist_cons_self p C))
theorem Bag.move_mid {C : Bg} {t : Sl} {u : Option V} (h : Bag R e F H (B ++ (t, u) :: C)) {i : Nat} (hi : i < B.length) : Bag R e F H (B.set i (t, u) ++ C) := by
  have p : (B ++ (t, u) :: C).Perm ((B ++ C) ++ [(t, u)]) := by
    rw [List.append_assoc]
    exact (List.Perm.refl B).append ((List.perm_append_singleton (t, u) C).symm)
  have h2 := (h.perm p).move (i := i) (by rw [List.length_append]; omega)
  rw [List.set_append_left _ _ hi] at h2
  exact h2

/-- what is lent: the own addresses -/
def lentOf (A : Bg) : List Addr := A.filterMap fun p => adr p.1 p.2
theorem mem_lent {A : Bg} {a : Addr} : a ∈ lentOf A ↔ ∃ p ∈ A, adr p.1 p.2 = some a := by
  unfold lentOf
  rw [List.mem_filterMap]
/-- the bag as a callee finds it -/
theorem Bag.enter (h : Bag R e F H B) : Bag R ⟨H, F, lentOf B⟩ F H B :=
  ⟨h.sub, h.all, h.dis, fun _ _ q _ => q, fun a ha => by
    obtain ⟨p, hp, q⟩ := mem_lent.mp ha
    obtain ⟨_, u, z⟩ := (h.mem hp).own_of q
    rw [z]; exact (fun z => nomatch z), fun i s o a g q => .inr (mem_lent.mpr ⟨_, List.mem_of_getElem? g, q⟩), fun _ _ q => .inl q, .refl⟩
/-- behind a call: what was not lent is as it was -/
theorem Bag.leave {A A' : Bg} {F' H' : Hp} (h : Bag R e F H (B ++ A)) (h' : Bag R ⟨H, F, lentOf A⟩ F' H' A') : Bag R e F' H' (B ++ A') := by
  have sF : Sub F F' := h'.hf0
  have cB : ∀ p ∈ B, ∀ a, adr p.1 p.2 = some a → a ∉ lentOf A ∧ F a = none ∧ ∃ u, H a = some u := fun p hp a ha => by
    refine ⟨fun z => ?_, (h.mem (List.mem_append_left _ hp)).own_of ha⟩
    obtain ⟨q, hq, hqa⟩ := mem_lent.mp z
    exact (List.pairwise_append.mp h.apart).2.2 p hp q hq a ha hqa
  have hk : ∀ p ∈ B, ∀ a, adr p.1 p.2 = some a → F' a = none ∧ H' a = H a := fun p hp a ha => by
    obtain ⟨n, f, u, hu⟩ := cB p hp a ha
    refine ⟨?_, by rw [h'.fr a u hu n, hu]⟩
    cases q : F' a with
    | none => rfl
    | some o =>
      rcases h'.hf a o q with z | z | z
      · have z' : F a = some o := z
        rw [f] at z'; cases z'
      · have z' : H a = none := z
        rw [hu] at z'; cases z'
      · exact absurd z n
  have eA : ∀ a ∈ lentOf A, e.H a = none ∨ a ∈ e.W := fun a ha => by
    obtain ⟨q, hq, hqa⟩ := mem_lent.mp ha
    exact h.mem_ow (List.mem_append_right _ hq) hqa
  have eN : ∀ a, H a = none → e.H a = none := fun a n => (h.new n).2.2.2
  have base : Bag R e F' H' [] := by
    refine ⟨h'.sub, fun i s o g => by simp at g, fun i j s t o u a g1 _ _ _ => by simp at g1, fun a o q w => ?_, fun a w z => ?_, fun i s o a g _ => by simp at g, fun a o q => ?_, h.hf0.trans sF⟩
    · refine h'.fr a o (h.fr a o q w) fun z => ?_
      rcases eA a z with y | y
      · rw [q] at y; cases y
      · exact w y
    · by_cases y : a ∈ lentOf A
      · exact h'.frW a y z
      · cases q : H a with
        | none => exact h.frW a w q
        | some u => rw [h'.fr a u q y] at z; cases z
    · rcases h'.hf a o q with z | z | z
      · exact h.hf a o z
      · exact .inr (.inl (eN a z))
      · exact .inr (eA a z)
  refine base.of (fun p hp => ?_) ?_ fun p hp a ha => ?_
  · rcases List.mem_append.mp hp with hp | hp
    · exact (h.mem (List.mem_append_left _ hp)).keep sF (hk p hp)
    · exact h'.mem hp
  · rw [List.pairwise_append]
    refine ⟨(List.pairwise_append.mp h.apart).1, h'.apart, fun p hp q hq a ha hqa => ?_⟩
    obtain ⟨n, f, u, hu⟩ := cB p hp a ha
    rcases h'.mem_ow hq hqa with z | z
    · have z' : H a = none := z
      rw [hu] at z'; cases z'
    · exact n z
  · rcases List.mem_append.mp hp with hp | hp
    · exact h.mem_ow (List.mem_append_left _ hp) ha
    · rcases h'.mem_ow hp ha with z | z
      · exact .inl (eN a z)
      · exact eA a z
end

/-! ### what a def promises -/
abbrev FP := List Sl → Option (Vl × List Sl)
/-- the promise: vs hold the contents as, f tells the answer and what comes back -/
def spF (R : RE) (n : Nat) (f : FP) : Sp := fun vs H Q _ => vs.length = n ∧ ∃ (F : Hp) (as : List Sl) (r : Vl) (as' : List Sl), as.length = n ∧ (∃ e0, Bag R e0 F H (as.zip (vs.map some))) ∧ f as = some (r, as') ∧
  ∀ x H' F', Bag R ⟨H, F, lentOf (as.zip (vs.map some))⟩ F' H' (as'.zip (vs.map some) ++ [(r.sl, some x)]) → Q x H'
/-- a def that is told by a function of its arguments' contents -/
structure FnP (P : Program) (w : World) (K : PySem.W.Frag) (mg : Str → Option Value) (base : Heap) (R : RE) (k : Nat) (f : Addr) (fd : FuncData) (ps : List Str) (fn : FP) : Prop where
  len : ∀ as r as', as.length = ps.length → fn as = some (r, as') → as'.length = as.length
  ok : FnOk P w K mg base CX0 k f fd ps (spF R ps.length fn)
/-- another function with the same answers -/
theorem FnP.imp {P : Program} {w : World} {K : PySem.W.Frag} {mg : Str → Option Value} {base : Heap} {R : RE} {k : Nat} {f : Addr} {fd : FuncData} {ps : List Str} {fn fn' : FP} (h : FnP P w K mg base R k f fd ps fn) (i : ∀ as r, fn' as = some r → fn as = some r) : FnP P w K mg base R k f fd ps fn' :=
  ⟨fun as r as' l q => h.len as r as' l (i as _ q), h.ok.imp fun vs H Q E ⟨l, F, as, r, as', la, hb, q, t⟩ => ⟨l, F, as, r, as', la, hb, i as _ q, t⟩⟩
/-- what was lent comes back -/
def putB : List Sl → List Sl → List Sl → List Sl
  | .br i _ :: as, s :: ss, ρ => putB as ss (ρ.set i s)
  | _ :: as, _ :: ss, ρ => putB as ss ρ
  | _, _, ρ => ρ
theorem putB_len : ∀ (as ss ρ : List Sl), (putB as ss ρ).length = ρ.length
  | [], _, ρ => by unfold putB; rfl
  | a :: as, [], ρ => by cases a <;> (unfold putB; rfl)
  | a :: as, s :: ss, ρ => by
    cases a <;> (unfold putB; first | exact putB_len as ss ρ | (rw [putB_len as ss, List.length_set]))
def eCall (f : FP) (fs : PFs) : PF := fun ρ => (fs ρ).bind fun x => (f (x.1.map tmpOf)).map fun y => (y.1.sl, putB x.1 y.2 x.2)
section
variable {R : RE} {e : En} {F H : Hp}
/-- the lent contents go home, the others away -/
theorem Bag.home {σ : L2.St} {tm C : Bg} : ∀ {as ss : List Sl} {xs : List V} {ρ : List Sl}, as.length = ss.length → ρ.length = σ.length → Paired (fun r x => PkOk r σ x) as xs → Bag R e F H (ρ.zip σ ++ tm ++ (ss.zip (xs.map some) ++ C)) → Bag R e F H ((putB as ss ρ).zip σ ++ tm ++ C)
  | [], [], [], ρ, _, _, _, h => by unfold putB; exact h
  | [], _ :: _, _, _, l, _, _, _ => by cases l
  | a :: as, [], _, _, l, _, _, _ => by cases l
  | a :: as, s :: ss, x :: xs, ρ, l, hl, .cons k ks, h => by
    have l' : as.length = ss.length := by simpa using l
    have e1 : (s :: ss).zip ((x :: xs).map some) = (s, some x) :: ss.zip (xs.map some) := rfl
    rw [e1, List.cons_append] at h
    have drop : Bag R e F H ((putB as ss ρ).zip σ ++ tm ++ C) := Bag.home l' hl ks h.drop_mid
    cases a with
    | br i t =>
      have hi := k i (.inr ⟨t, rfl⟩)
      unfold putB
      have hlt : i < (ρ.zip σ ++ tm).length := by
        have := (List.getElem?_eq_some_iff.mp hi).1
        rw [List.length_append, List.length_zip]; omega
      have h2 := h.move_mid hlt
      have hz : i < (ρ.zip σ).length := by
        have := (List.getElem?_eq_some_iff.mp hi).1
        rw [List.length_zip]; omega
      rw [List.set_append_left _ _ hz, ← zip_set hi] at h2
      exact Bag.home l' (by rw [List.length_set]; exact hl) ks h2
    | _ => unfold putB; exact drop
theorem tmp_adr {s : Sl} : True := trivial
end
section
variable {X : Cx} {R : RE} {a b : Expr} {es : List Expr} {fs : PFs} {pos p : Pos} {k : Nat} {f C : Addr} {fd : FuncData} {ps : List Str} {fn : FP} {x : Str}
theorem eCall_some {ρ ρ' : List Sl} {r : Sl} (q : eCall fn fs ρ = some (r, ρ')) : ∃ rs ρ1 v ss, fs ρ = some (rs, ρ1) ∧ fn (rs.map tmpOf) = some (v, ss) ∧ r = v.sl ∧ ρ' = putB rs ss ρ1 := by
  unfold eCall at q
  rw [Option.bind_eq_some_iff] at q
  obtain ⟨⟨rs, ρ1⟩, h1, q⟩ := q
  rw [Option.map_eq_some_iff] at q
  obtain ⟨⟨v, ss⟩, h2, q⟩ := q
  cases q
  exact ⟨rs, ρ1, v, ss, h1, h2, rfl, rfl⟩
theorem call_len (l : ∀ ρ r ρ', fs ρ = some (r, ρ') → ρ'.length = ρ.length) : ∀ ρ r ρ', eCall fn fs ρ = some (r, ρ') → ρ'.length = ρ.length := fun ρ r ρ' q => by
  obtain ⟨rs, ρ1, v, ss, h1, h2, _, rfl⟩ := eCall_some q
  rw [putB_len]; exact l _ _ _ h1
/-- the arguments' bag, then the callee's promise -/
theorem spF_of {e : En} {F1 H1 : Hp} {ρ1 : List Sl} {σ : L2.St} {tm : Bg} {rs ss : List Sl} {xs : List V} {v : Vl} {n : Nat} {Q : VK} {E : XK} (lf : ∀ as r as', as.length = n → fn as = some (r, as') → as'.length = as.length) (hn : rs.length = n) (hl : ρ1.length = σ.length)
    (B1 : Bag R e F1 H1 (ρ1.zip σ ++ tm ++ (rs.map tmpOf).zip (xs.map some))) (k1 : Paired (fun r x => PkOk r σ x) rs xs) (h2 : fn (rs.map tmpOf) = some (v, ss))
    (kk : ∀ z H' F', Bag R e F' H' ((putB rs ss ρ1).zip σ ++ tm ++ [(v.sl, some z)]) → Q z H') : spF R n fn xs H1 Q E := by
  have lx := Paired.len k1
  refine ⟨by omega, F1, rs.map tmpOf, v, ss, by simpa using hn, ⟨_, B1.sublist (List.sublist_append_right _ _)⟩, h2, fun z H' F' B' => kk z H' F' ?_⟩
  have ls := lf _ _ _ (by rw [List.length_map]; exact hn) h2
  rw [List.length_map] at ls
  exact Bag.home (C := [(v.sl, some z)]) ls.symm hl k1 (B1.leave B')
theorem ev_call (hf : FnP X.prog X.w X.K X.mg X.base R k f fd ps fn) (hr : Room k X.A) (hg : Gl X x) (hm : X.mg x = some (.ref f)) (hk : PySem.W.keepIn X.K (.ref f) = true) (hb : Binds X.K fd ps []) (ha : Av X R (a :: es) fs) (hn : (a :: es).length = ps.length := by rfl)
    (hdb : (x == ("__debug__" : Str)) = false := by decide) (he : starEach (a :: es) X.env = (false, eval a X.env) :: starEach es X.env := by rfl) (hpl : (backTo pos (starEach es X.env)).any (·.1) = false := by rfl) :
    Ev X R (.Call (.Name x p) (a :: es) [] pos) (eCall fn fs) := by
  refine ⟨call_len ha.len, pe_mono (pe_call hf.ok hr hg hm hk hb .nil pass0 ha.pa hdb he hpl) fun σ H Q h => ?_⟩
  obtain ⟨e, F, ρ, tm, r, ρ', hl, hB, hf', kk⟩ := h
  obtain ⟨rs, ρ1, v, ss, h1, h2, rfl, rfl⟩ := eCall_some hf'
  refine ⟨e, F, ρ, tm, rs, ρ1, hl, hB, h1, fun xs H1 F1 B1 k1 => ?_⟩
  show spF R ps.length fn (xs ++ []) H1 Q E0
  rw [List.append_nil]
  exact spF_of hf.len ((ha.cnt _ _ _ h1).trans hn) ((ha.len _ _ _ h1).trans hl) B1 k1 h2 fun z H' F' B' => kk z H' F' (by rw [tmp_sl]; exact B') (sl_pk v σ z)
theorem ev_call0 (hf : FnP X.prog X.w X.K X.mg X.base R k f fd ps fn) (hr : Room k X.A) (hg : Gl X x) (hm : X.mg x = some (.ref f)) (hk : PySem.W.keepIn X.K (.ref f) = true) (hb : Binds X.K fd ps []) (hn : 0 = ps.length := by rfl)
    (hdb : (x == ("__debug__" : Str)) = false := by decide) : Ev X R (.Call (.Name x p) [] [] pos) (eCall fn aNil) := by
  refine ⟨call_len (av_nil (X := X) (R := R)).len, pe_mono (pe_call0 hf.ok hr hg hm hk hb .nil pass0 hdb) fun σ H Q h => ?_⟩
  obtain ⟨e, F, ρ, tm, r, ρ', hl, hB, hf', kk⟩ := h
  obtain ⟨rs, ρ1, v, ss, h1, h2, rfl, rfl⟩ := eCall_some hf'
  cases h1
  refine spF_of (rs := []) (xs := []) (E := E0) hf.len hn hl (by simpa using hB) .nil h2 fun z H' F' B' => kk z H' F' (by rw [tmp_sl]; exact B') (sl_pk v σ z)
end

/-! ### instances -/
/-- C(..): __init__ fills a new instance -/
def eMake (c n : Nat) (f : FP) (fs : PFs) : PF := fun ρ => (fs ρ).bind fun x => (f (.obj c [] :: x.1.map tmpOf)).bind fun y => match y with
  | (.fz .non, .obj c' zs :: ss) => if c' = c ∧ zs.length = n then some (.fz (.ins c zs), putB x.1 ss x.2) else none
  | _ => none
section
variable {X : Cx} {R : RE} {a b : Expr} {es : List Expr} {fs : PFs} {fa : PF} {pos p : Pos} {k : Nat} {f C : Addr} {fd : FuncData} {ps : List Str} {fn : FP} {x : Str} {c n : Nat}
theorem eMake_some {ρ ρ' : List Sl} {r : Sl} (q : eMake c n fn fs ρ = some (r, ρ')) : ∃ rs ρ1 zs ss, fs ρ = some (rs, ρ1) ∧ fn (.obj c [] :: rs.map tmpOf) = some (.fz .non, .obj c zs :: ss) ∧ zs.length = n ∧ r = .fz (.ins c zs) ∧ ρ' = putB rs ss ρ1 := by
  unfold eMake at q
  rw [Option.bind_eq_some_iff] at q
  obtain ⟨⟨rs, ρ1⟩, h1, q⟩ := q
  rw [Option.bind_eq_some_iff] at q
  obtain ⟨y, h2, q⟩ := q
  split at q
  · rename_i c' zs ss
    split at q
    · rename_i cc
      cases q
      obtain ⟨rfl, l⟩ := cc
      exact ⟨rs, ρ1, zs, ss, h1, h2, l, rfl, rfl⟩
    · cases q
  · cases q
theorem ev_make (M : Mk X.K (R.cl c) f) (hf : FnP X.prog X.w X.K X.mg X.base R k f fd ps fn) (hfl : (R.fl c).length = n) (hr : Room (k + 1) X.A) (hg : Gl X x) (hm : X.mg x = some (.ref (R.cl c))) (hb : Binds X.K fd ps []) (ha : Av X R (a :: es) fs) (hn : (a :: es).length + 1 = ps.length := by rfl)
    (hdb : (x == ("__debug__" : Str)) = false := by decide) (he : starEach (a :: es) X.env = (false, eval a X.env) :: starEach es X.env := by rfl) (hpl : (backTo pos (starEach es X.env)).any (·.1) = false := by rfl) :
    Ev X R (.Call (.Name x p) (a :: es) [] pos) (eMake c n fn fs) := by
  refine ⟨fun ρ r ρ' q => ?_, pe_mono (pe_make M hf.ok hr hg hm hb .nil pass0 ha.pa hdb he hpl) fun σ H Q h => ?_⟩
  · obtain ⟨rs, ρ1, zs, ss, h1, h2, _, _, rfl⟩ := eMake_some q
    rw [putB_len]; exact ha.len _ _ _ h1
  · obtain ⟨e, F, ρ, tm, r, ρ', hl, hB, hf', kk⟩ := h
    obtain ⟨rs, ρ1, zs, ss, h1, h2, lz, rfl, rfl⟩ := eMake_some hf'
    refine ⟨e, F, ρ, tm, rs, ρ1, hl, hB, h1, fun xs H1 F1 B1 k1 y dx ny ndx ne => ?_⟩
    rw [List.append_nil]
    have lx := Paired.len k1
    have l1 := (ha.len _ _ _ h1).trans hl
    have lr := ha.cnt _ _ _ h1
    -- the new instance and its dict
    have B2 := (B1.lay (o := .own y) ndx)
    have ny2 : (upd H1 dx (.own y)) y = none := by rw [upd_ne (Ne.symm ne)]; exact ny
    have B3 := B2.lay (o := .ins (R.cl c) dx []) ny2
    obtain ⟨nF, nE, _, _⟩ := B2.new ny2
    have B4 : Bag R e F1 (upd (upd H1 dx (.own y)) y (.ins (R.cl c) dx [])) ((ρ1.zip σ ++ tm) ++ ((.obj c [] :: rs.map tmpOf).zip ((V.ref y :: xs).map some))) := by
      have e1 : (Sl.obj c [] :: rs.map tmpOf).zip ((V.ref y :: xs).map some) = (.obj c [], some (.ref y)) :: (rs.map tmpOf).zip (xs.map some) := rfl
      rw [e1]
      have B5 : Bag R e F1 (upd (upd H1 dx (.own y)) y (.ins (R.cl c) dx [])) (ρ1.zip σ ++ tm ++ (rs.map tmpOf).zip (xs.map some) ++ [(.obj c [], some (.ref y))]) := by
        refine B3.of (fun q hq => ?_) ?_ fun q hq a ha => ?_
        · rcases List.mem_append.mp hq with hq | hq
          · exact B3.mem hq
          · obtain rfl := List.mem_singleton.mp hq
            exact ⟨y, dx, [], rfl, nF, by rw [upd_same]; simp, Nat.zero_le _, .nil⟩
        · rw [List.pairwise_append]
          refine ⟨B3.apart, List.pairwise_singleton _ _, fun q hq q' hq' a h1 h2 => ?_⟩
          obtain rfl := List.mem_singleton.mp hq'
          cases h2
          obtain ⟨_, u, z⟩ := (B2.mem hq).own_of h1
          rw [ny2] at z; cases z
        · rcases List.mem_append.mp hq with hq | hq
          · exact B3.mem_ow hq ha
          · obtain rfl := List.mem_singleton.mp hq
            cases ha
            exact nE
      refine B5.perm ?_
      rw [List.append_assoc (ρ1.zip σ ++ tm)]
      exact (List.Perm.refl _).append (List.perm_append_singleton _ _)
    have lf := hf.len _ _ _ (by rw [List.length_cons, List.length_map]; omega) h2
    have ls : rs.length = ss.length := by
      have := lf
      simp only [List.length_cons, List.length_map] at this
      omega
    have q3 : (Sl.obj c [] :: rs.map tmpOf).length = rs.length + 1 := by simp
    refine ⟨by rw [List.length_cons]; omega, F1, .obj c [] :: rs.map tmpOf, .fz .non, .obj c zs :: ss, by omega, ⟨_, B4.sublist (List.sublist_append_right _ _)⟩, h2, fun z H' F' B' => ?_⟩
    have B6 := B4.leave B'
    have ez := (B6.rq_fz (x := z) (p := .non) (i := (ρ1.zip σ ++ tm ++ ((Sl.obj c zs :: ss).zip ((V.ref y :: xs).map some))).length) (by rw [← List.append_assoc]; exact app_last)).non
    refine ⟨ez, ?_⟩
    have B7 : Bag R e F' H' (ρ1.zip σ ++ tm ++ (.obj c zs, some (.ref y)) :: (ss.zip (xs.map some) ++ [])) := by
      rw [List.append_nil]
      have e1 : (Sl.obj c zs :: ss).zip ((V.ref y :: xs).map some) = (.obj c zs, some (.ref y)) :: ss.zip (xs.map some) := rfl
      rw [e1, ← List.append_assoc] at B6
      exact B6.pop
    obtain ⟨F2, s2, B8⟩ := B7.freezeObj (i := (ρ1.zip σ ++ tm).length) (c := c) (xs := zs) app_mid (by rw [lz, hfl])
    rw [List.set_append_right _ _ (Nat.le_refl _), Nat.sub_self] at B8
    have B9 : Bag R e F2 H' (ρ1.zip σ ++ tm ++ (ss.zip (xs.map some) ++ [(.fz (.ins c zs), some (.ref y))])) := by
      refine B8.perm ?_
      refine (List.Perm.refl _).append ?_
      rw [List.set_cons_zero, List.append_nil]
      exact (List.perm_append_singleton _ _).symm
    exact kk (.ref y) H' F2 (Bag.home ls l1 k1 B9) pk_fz
/-- e.f, an attribute of an instance; t: its place for each class that has it -/
def eFld (t : Nat → Option Nat) (fa : PF) : PF := fun ρ => (fa ρ).bind fun x => match x.1 with
  | .fz (.ins c xs) => (t c).bind fun j => (xs[j]?).map fun p => (.fz p, x.2)
  | _ => none
theorem lookup_zip : ∀ {fs : List Str} {vs : List V} {j : Nat} {g : Str} {v : V}, fs.Nodup → fs[j]? = some g → vs[j]? = some v → (fs.zip vs).lookup g = some v
  | [], _, _, _, _, _, h, _ => by simp at h
  | _ :: _, [], _, _, _, _, _, h => by simp at h
  | a :: fs, b :: vs, 0, g, v, nd, h1, h2 => by
    simp at h1 h2
    subst h1 h2
    rw [List.zip_cons_cons, List.lookup_cons]
    simp
  | a :: fs, b :: vs, j + 1, g, v, nd, h1, h2 => by
    rw [List.nodup_cons] at nd
    have hm : g ∈ fs := List.mem_of_getElem? (by simpa using h1)
    have hb : (g == a) = false := by
      rw [beq_eq_false_iff_ne]
      rintro rfl
      exact nd.1 hm
    rw [List.zip_cons_cons, List.lookup_cons, hb]
    exact lookup_zip (j := j) nd.2 (by simpa using h1) (by simpa using h2)
theorem ev_fld (hK : R.K = X.K) {g : Str} {t : Nat → Option Nat} (ht : ∀ c j, t c = some j → (R.fl c)[j]? = some g ∧ (R.fl c).Nodup ∧ Cls R.K (R.cl c) ∧ NoAttr R.K (R.cl c) g) (ha : Ev X R a fa) (hb : attributeBase a g X.env (eval a X.env) = eval a X.env := by rfl) : Ev X R (.Attribute a g pos) (eFld t fa) := by
  have key : ∀ {ρ ρ' : List Sl} {r : Sl}, eFld t fa ρ = some (r, ρ') → ∃ c xs j p, fa ρ = some (.fz (.ins c xs), ρ') ∧ t c = some j ∧ xs[j]? = some p ∧ r = .fz p := by
    intro ρ ρ' r q
    unfold eFld at q
    rw [Option.bind_eq_some_iff] at q
    obtain ⟨⟨r1, ρ1⟩, h1, q⟩ := q
    cases r1 with
    | fz p =>
      cases p with
      | ins c xs =>
        dsimp only at q
        rw [Option.bind_eq_some_iff] at q
        obtain ⟨j, h2, q⟩ := q
        rw [Option.map_eq_some_iff] at q
        obtain ⟨p, h3, q⟩ := q
        cases q
        exact ⟨c, xs, j, p, h1, h2, h3, rfl⟩
      | _ => cases q
    | _ => cases q
  refine ⟨fun ρ r ρ' q => ?_, pe_mono (pe_fld ha.pe hb) fun σ H Q h => ?_⟩
  · obtain ⟨c, xs, j, p, h1, _⟩ := key q
    exact ha.len _ _ _ h1
  · obtain ⟨e, F, ρ, tm, r, ρ', hl, hB, hf', kk⟩ := h
    obtain ⟨c, xs, j, p, h1, h2, h3, rfl⟩ := key hf'
    refine ⟨e, F, ρ, tm, _, ρ', hl, hB, h1, fun x H1 F1 B1 k1 => ?_⟩
    obtain ⟨y, ey, q⟩ := B1.all _ _ _ app_last
    cases ey
    obtain ⟨hg, nd, cl, na⟩ := ht c j h2
    cases q with
    | ins q l r =>
      obtain ⟨v, hv, rv⟩ := r.get' h3
      rw [hK] at cl na
      exact ⟨_, _, _, _, v, rfl, B1.sub _ _ q, cl, na, lookup_zip nd hg hv, kk v H1 F1 (B1.pop.push_fz rv) pk_fz⟩
end
end PL
set_option Elab.async false
set_option linter.all false
set_option maxRecDepth 100000
set_option maxHeartbeats 4000000
/-! PLg: statements. -/
namespace PL
open PySem PySem.Spec PyProof.Rows L2

inductive Fl where
  | nx | rt (v : Vl) | bk | ct
abbrev PSF := List Sl → Option (Fl × List Sl)
/-- what a statement's end gives -/
def SEnd (R : RE) (pr : List Nat) (e : En) (σ : L2.St) (tm : Bg) (D : Ends) (fl : Fl) (ρ' : List Sl) : Prop := ∀ (σ' : L2.St) (H' F' : Hp), σ'.length = σ.length → (∀ i ∈ pr, σ'[i]? = σ[i]?) →
  match fl with
  | .nx => Bag R e F' H' (ρ'.zip σ' ++ tm) → D.nx σ' H'
  | .rt v => ∀ x, Bag R e F' H' (ρ'.zip σ' ++ tm ++ [(v.sl, some x)]) → D.rt x H'
  | .bk => Bag R e F' H' (ρ'.zip σ' ++ tm) → D.bk σ' H'
  | .ct => Bag R e F' H' (ρ'.zip σ' ++ tm) → D.ct σ' H'
def TSv (R : RE) (pr : List Nat) (f : PSF) : TS := fun D σ H => ∃ (e : En) (F : Hp) (ρ : List Sl) (tm : Bg) (fl : Fl) (ρ' : List Sl), ρ.length = σ.length ∧ Bag R e F H (ρ.zip σ ++ tm) ∧ f ρ = some (fl, ρ') ∧ SEnd R pr e σ tm D fl ρ'
structure Sv (X : Cx) (R : RE) (pr : List Nat) (st : Stmt) (f : PSF) : Prop where
  len : ∀ ρ r ρ', f ρ = some (r, ρ') → ρ'.length = ρ.length
  ps : PS X st (TSv R pr f)
structure SSv (X : Cx) (R : RE) (pr : List Nat) (st : List Stmt) (f : PSF) : Prop where
  len : ∀ ρ r ρ', f ρ = some (r, ρ') → ρ'.length = ρ.length
  ps : PSs X st (TSv R pr f)
theorem SEnd.step {R : RE} {pr : List Nat} {e : En} {σ σ1 : L2.St} {tm : Bg} {D : Ends} {fl : Fl} {ρ' : List Sl} (h : SEnd R pr e σ tm D fl ρ') (l : σ1.length = σ.length) (p : ∀ i ∈ pr, σ1[i]? = σ[i]?) : SEnd R pr e σ1 tm D fl ρ' :=
  fun σ' H' F' l' p' => h σ' H' F' (l'.trans l) fun i hi => (p' i hi).trans (p i hi)

def sNil : PSF := fun ρ => some (.nx, ρ)
def sSeq (f g : PSF) : PSF := fun ρ => (f ρ).bind fun x => match x.1 with
  | .nx => g x.2
  | fl => some (fl, x.2)
def sIf (g : PT') (f h : PSF) : PSF := fun ρ => (g ρ).bind fun x => if x.1 = true then f x.2 else h x.2
def sNever : PSF := fun _ => none
def toVl : Sl → Option Vl
  | .fz p => some (.fz p)
  | .own xs => some (.own xs)
  | _ => none
theorem toVl_eq {s : Sl} {v : Vl} (h : toVl s = some v) : s = v.sl := by
  cases s <;> cases h <;> rfl
def sRet (f : PF) : PSF := fun ρ => (f ρ).bind fun x => (toVl x.1).map fun v => (.rt v, x.2)
def sRetN : PSF := fun ρ => some (.rt (.fz .non), ρ)
def sExpr (f : PF) : PSF := fun ρ => (f ρ).map fun x => (.nx, x.2)
def sSet (i : Nat) (f : PF) : PSF := fun ρ => (f ρ).bind fun x => (toVl x.1).map fun v => (.nx, x.2.set i v.sl)

section
variable {X : Cx} {R : RE} {pr : List Nat} {a b c : Expr} {fa fb : PF} {gc : PT'} {st : Stmt} {rest sa sb : List Stmt} {f g : PSF} {pos pos' : Pos}
theorem ssv_nil : SSv X R pr [] sNil := ⟨fun ρ r ρ' h => by cases h; rfl, pss_mono pss_nil fun D σ H h => by
  obtain ⟨e, F, ρ, tm, fl, ρ', hl, hB, hf, k⟩ := h
  cases hf
  exact k σ H F rfl (fun _ _ => rfl) hB⟩
theorem sSeq_some {ρ ρ' : List Sl} {fl : Fl} (h : sSeq f g ρ = some (fl, ρ')) : ∃ fl1 ρ1, f ρ = some (fl1, ρ1) ∧ ((fl1 = .nx ∧ g ρ1 = some (fl, ρ')) ∨ (fl1 ≠ .nx ∧ fl = fl1 ∧ ρ' = ρ1)) := by
  unfold sSeq at h
  rw [Option.bind_eq_some_iff] at h
  obtain ⟨⟨fl1, ρ1⟩, h1, h⟩ := h
  refine ⟨fl1, ρ1, h1, ?_⟩
  cases fl1 with
  | nx => exact .inl ⟨rfl, h⟩
  | rt v => cases h; exact .inr ⟨(fun z => nomatch z), rfl, rfl⟩
  | bk => cases h; exact .inr ⟨(fun z => nomatch z), rfl, rfl⟩
  | ct => cases h; exact .inr ⟨(fun z => nomatch z), rfl, rfl⟩
theorem ssv_cons (h1 : Sv X R pr st f) (h2 : SSv X R pr rest g) : SSv X R pr (st :: rest) (sSeq f g) := by
  refine ⟨fun ρ r ρ' h => ?_, pss_mono (pss_cons h1.ps h2.ps) fun D σ H h => ?_⟩
  · obtain ⟨fl1, ρ1, q1, q⟩ := sSeq_some h
    rcases q with ⟨_, q⟩ | ⟨_, _, rfl⟩
    · exact (h2.len _ _ _ q).trans (h1.len _ _ _ q1)
    · exact h1.len _ _ _ q1
  · obtain ⟨e, F, ρ, tm, fl, ρ', hl, hB, hf, k⟩ := h
    obtain ⟨fl1, ρ1, q1, q⟩ := sSeq_some hf
    have l1 := h1.len _ _ _ q1
    refine ⟨e, F, ρ, tm, fl1, ρ1, hl, hB, q1, ?_⟩
    rcases q with ⟨rfl, q⟩ | ⟨nn, rfl, rfl⟩
    · intro σ1 H1 F1 ls lp hB1
      exact ⟨e, F1, ρ1, tm, fl, ρ', by omega, hB1, q, k.step ls lp⟩
    · cases fl with
      | nx => exact absurd rfl nn
      | rt v => exact k
      | bk => exact k
      | ct => exact k
theorem ssv_one (h1 : Sv X R pr st f) : SSv X R pr [st] f := ⟨h1.len, pss_one h1.ps⟩
theorem sv_if (hc : Tv X R c gc) (h1 : SSv X R pr sa f) (h2 : SSv X R pr sb g) : Sv X R pr (.If c sa sb pos) (sIf gc f g) := by
  refine ⟨fun ρ r ρ' h => ?_, ps_mono (ps_if hc.pt h1.ps h2.ps) fun D σ H h => ?_⟩
  · unfold sIf at h
    rw [Option.bind_eq_some_iff] at h
    obtain ⟨⟨d, ρ1⟩, q1, h⟩ := h
    cases d with
    | true => exact (h1.len _ _ _ h).trans (hc.len _ _ _ q1)
    | false => exact (h2.len _ _ _ h).trans (hc.len _ _ _ q1)
  · obtain ⟨e, F, ρ, tm, fl, ρ', hl, hB, hf, k⟩ := h
    unfold sIf at hf
    rw [Option.bind_eq_some_iff] at hf
    obtain ⟨⟨d, ρ1⟩, q1, hf⟩ := hf
    refine ⟨e, F, ρ, tm, d, ρ1, hl, hB, q1, fun H1 F1 B1 => ?_⟩
    have l1 := hc.len _ _ _ q1
    cases d with
    | true => exact iteT ⟨e, F1, ρ1, tm, fl, ρ', by omega, B1, hf, k⟩
    | false => exact iteF ⟨e, F1, ρ1, tm, fl, ρ', by omega, B1, hf, k⟩
/-- code that is not come to -/
theorem sv_never : Sv X R pr st sNever := ⟨fun ρ r ρ' h => (nomatch h), ps_mono ps_never fun D σ H h => by
  obtain ⟨e, F, ρ, tm, fl, ρ', hl, hB, hf, k⟩ := h
  cases hf⟩
theorem ssv_never : SSv X R pr rest sNever := ⟨fun ρ r ρ' h => (nomatch h), pss_mono pss_never fun D σ H h => by
  obtain ⟨e, F, ρ, tm, fl, ρ', hl, hB, hf, k⟩ := h
  cases hf⟩
def sPass : PSF := sNil
theorem sv_pass : Sv X R pr (.Pass pos) sNil := ⟨fun ρ r ρ' h => by cases h; rfl, ps_mono ps_pass fun D σ H h => by
  obtain ⟨e, F, ρ, tm, fl, ρ', hl, hB, hf, k⟩ := h
  cases hf
  exact k σ H F rfl (fun _ _ => rfl) hB⟩
def sBreak : PSF := fun ρ => some (.bk, ρ)
def sCont : PSF := fun ρ => some (.ct, ρ)
theorem sv_break : Sv X R pr (.Break pos) sBreak := ⟨fun ρ r ρ' h => by cases h; rfl, ps_mono ps_break fun D σ H h => by
  obtain ⟨e, F, ρ, tm, fl, ρ', hl, hB, hf, k⟩ := h
  cases hf
  exact k σ H F rfl (fun _ _ => rfl) hB⟩
theorem sv_cont : Sv X R pr (.Continue pos) sCont := ⟨fun ρ r ρ' h => by cases h; rfl, ps_mono ps_continue fun D σ H h => by
  obtain ⟨e, F, ρ, tm, fl, ρ', hl, hB, hf, k⟩ := h
  cases hf
  exact k σ H F rfl (fun _ _ => rfl) hB⟩
theorem sRet_some {ρ ρ' : List Sl} {fl : Fl} (h : sRet fa ρ = some (fl, ρ')) : ∃ v : Vl, fa ρ = some (v.sl, ρ') ∧ fl = .rt v := by
  unfold sRet at h
  rw [Option.bind_eq_some_iff] at h
  obtain ⟨⟨r, ρ1⟩, q1, h⟩ := h
  rw [Option.map_eq_some_iff] at h
  obtain ⟨v, q2, h⟩ := h
  cases h
  dsimp only at q2
  rw [toVl_eq q2] at q1
  exact ⟨v, q1, rfl⟩
theorem sv_ret (h : Ev X R a fa) : Sv X R pr (.Return (some a) pos) (sRet fa) := by
  refine ⟨fun ρ r ρ' q => ?_, ps_mono (ps_ret h.pe) fun D σ H q => ?_⟩
  · obtain ⟨v, q1, _⟩ := sRet_some q
    exact h.len _ _ _ q1
  · obtain ⟨e, F, ρ, tm, fl, ρ', hl, hB, hf, k⟩ := q
    obtain ⟨v, q1, rfl⟩ := sRet_some hf
    refine ⟨e, F, ρ, tm, v.sl, ρ', hl, hB, q1, fun x H' F' B' _ => ?_⟩
    rw [tmp_sl] at B'
    exact k σ H' F' rfl (fun _ _ => rfl) x B'
theorem sv_retN : Sv X R pr (.Return none pos) sRetN := by
  refine ⟨fun ρ r ρ' q => by cases q; rfl, ps_mono ps_retN fun D σ H q => ?_⟩
  obtain ⟨e, F, ρ, tm, fl, ρ', hl, hB, hf, k⟩ := q
  cases hf
  exact k σ H F rfl (fun _ _ => rfl) .non (hB.push_fz .non)
theorem sv_expr (h : Ev X R a fa) (hs : swapsWith a none pos.line X.env = pure false := by rfl) : Sv X R pr (.Expr a pos) (sExpr fa) := by
  have key : ∀ {ρ ρ' : List Sl} {fl : Fl}, sExpr fa ρ = some (fl, ρ') → ∃ r, fa ρ = some (r, ρ') ∧ fl = .nx := by
    intro ρ ρ' fl q
    unfold sExpr at q
    rw [Option.map_eq_some_iff] at q
    obtain ⟨⟨r, ρ1⟩, q1, q⟩ := q
    cases q
    exact ⟨r, q1, rfl⟩
  refine ⟨fun ρ r ρ' q => ?_, ps_mono (ps_expr h.pe hs) fun D σ H q => ?_⟩
  · obtain ⟨v, q1, _⟩ := key q
    exact h.len _ _ _ q1
  · obtain ⟨e, F, ρ, tm, fl, ρ', hl, hB, hf, k⟩ := q
    obtain ⟨r, q1, rfl⟩ := key hf
    exact ⟨e, F, ρ, tm, r, ρ', hl, hB, q1, fun x H' F' B' _ => k σ H' F' rfl (fun _ _ => rfl) B'.pop⟩
theorem sv_doc {x : Str} {j : Nat} : Sv X R pr (.Expr (.Constant (.str x) j pos) pos') sNil := ⟨fun ρ r ρ' h => by cases h; rfl, ps_mono ps_doc fun D σ H h => by
  obtain ⟨e, F, ρ, tm, fl, ρ', hl, hB, hf, k⟩ := h
  cases hf
  exact k σ H F rfl (fun _ _ => rfl) hB⟩
theorem zip_set2 {ρ : List Sl} {σ : L2.St} {i : Nat} {s : Sl} {o : Option V} (hl : ρ.length = σ.length) : (ρ.set i s).zip (σ.set i o) = (ρ.zip σ).set i (s, o) := by
  by_cases hi : i < σ.length
  · apply List.ext_getElem?
    intro j
    by_cases z : i = j
    · subst z
      rw [List.getElem?_set_self (by rw [List.length_zip]; omega)]
      exact zip_get (List.getElem?_set_self (by omega)) (List.getElem?_set_self hi)
    · rw [List.getElem?_set_ne z]
      cases q : (ρ.zip σ)[j]? with
      | none =>
        rw [List.getElem?_eq_none_iff] at q ⊢
        rw [List.length_zip] at q ⊢
        rw [List.length_set, List.length_set]
        exact q
      | some p =>
        obtain ⟨s', o'⟩ := p
        rw [List.getElem?_zip_eq_some] at q ⊢
        rw [List.getElem?_set_ne z, List.getElem?_set_ne z]
        exact q
  · rw [List.set_eq_of_length_le (by omega), List.set_eq_of_length_le (by omega), List.set_eq_of_length_le (by rw [List.length_zip]; omega)]
/-- what lies behind the slots goes into slot i -/
theorem Bag.slot {e : En} {F H : Hp} {ρ : List Sl} {σ : L2.St} {tm C : Bg} {i : Nat} {s : Sl} {x : Option V} (h : Bag R e F H (ρ.zip σ ++ tm ++ (s, x) :: C)) (hl : ρ.length = σ.length) : Bag R e F H ((ρ.set i s).zip (σ.set i x) ++ tm ++ C) := by
  rw [zip_set2 hl]
  by_cases hi : i < (ρ.zip σ).length
  · have h2 := h.move_mid (i := i) (by rw [List.length_append]; omega)
    rw [List.set_append_left _ _ hi] at h2
    exact h2
  · rw [List.set_eq_of_length_le (by omega)]
    exact h.drop_mid
theorem pr_set {σ : L2.St} {i : Nat} {x : Option V} (h : i ∉ pr) : ∀ j ∈ pr, (σ.set i x)[j]? = σ[j]? := fun j hj => List.getElem?_set_ne fun z => by subst z; exact h hj
theorem sSet_some {i : Nat} {ρ ρ' : List Sl} {fl : Fl} (h : sSet i fa ρ = some (fl, ρ')) : ∃ (v : Vl) (ρ1 : List Sl), fa ρ = some (v.sl, ρ1) ∧ fl = .nx ∧ ρ' = ρ1.set i v.sl := by
  unfold sSet at h
  rw [Option.bind_eq_some_iff] at h
  obtain ⟨⟨r, ρ1⟩, q1, h⟩ := h
  rw [Option.map_eq_some_iff] at h
  obtain ⟨v, q2, h⟩ := h
  cases h
  dsimp only at q2
  rw [toVl_eq q2] at q1
  exact ⟨v, ρ1, q1, rfl, rfl⟩
theorem sSet_len {i : Nat} (l : ∀ ρ r ρ', fa ρ = some (r, ρ') → ρ'.length = ρ.length) : ∀ ρ r ρ', sSet i fa ρ = some (r, ρ') → ρ'.length = ρ.length := fun ρ r ρ' q => by
  obtain ⟨v, ρ1, q1, _, rfl⟩ := sSet_some q
  rw [List.length_set]; exact l _ _ _ q1
/-- the reading of a plain assignment to a name -/
theorem tSet_of {i : Nat} {D : Ends} {σ : L2.St} {H : Hp} (hp : i ∉ pr) (l : ∀ ρ r ρ', fa ρ = some (r, ρ') → ρ'.length = ρ.length) (h : TSv R pr (sSet i fa) D σ H) : tAsg (TEv R fa) (gName i) D σ H := by
  obtain ⟨e, F, ρ, tm, fl, ρ', hl, hB, hf, k⟩ := h
  obtain ⟨v, ρ1, q1, rfl, rfl⟩ := sSet_some hf
  refine ⟨e, F, ρ, tm, v.sl, ρ1, hl, hB, q1, fun x H' F' B' _ => ?_⟩
  rw [tmp_sl] at B'
  have l1 := l _ _ _ q1
  have B2 := Bag.slot (i := i) (C := []) B' (by omega)
  rw [List.append_nil] at B2
  exact k _ H' F' (by rw [List.length_set]) (pr_set hp) B2
theorem sv_set {i : Nat} {x : Str} (hN : X.N.Nodup) (hi : X.N[i]? = some x) (hx : Loc X.env.scope x) (hp : i ∉ pr) (h : Ev X R a fa) (hs : swapsWith a (some (.Name x pos')) pos.line X.env = pure false := by rfl) (hf : X.fn x = true ∨ X.env.scope.names.lookup x = some .local := by first | exact .inl rfl | exact .inr rfl | assumption) :
    Sv X R pr (.Assign [.Name x pos'] a pos) (sSet i fa) := ⟨sSet_len h.len, ps_mono (ps_set hN hi hx h.pe hs hf) fun D σ H q => tSet_of hp h.len q⟩

/-! ### two, three names at once -/
def sPar (i j : Nat) (fs : PFs) : PSF := fun ρ => (fs ρ).bind fun x => match x.1 with
  | [r, s] => (toVl r).bind fun v => (toVl s).map fun w => (.nx, (x.2.set i v.sl).set j w.sl)
  | _ => none
def sPar3 (i j l : Nat) (fs : PFs) : PSF := fun ρ => (fs ρ).bind fun x => match x.1 with
  | [r, s, t] => (toVl r).bind fun v => (toVl s).bind fun w => (toVl t).map fun u => (.nx, ((x.2.set i v.sl).set j w.sl).set l u.sl)
  | _ => none
theorem sPar_some {i j : Nat} {fs : PFs} {ρ ρ' : List Sl} {fl : Fl} (h : sPar i j fs ρ = some (fl, ρ')) : ∃ (v w : Vl) (ρ1 : List Sl), fs ρ = some ([v.sl, w.sl], ρ1) ∧ fl = .nx ∧ ρ' = (ρ1.set i v.sl).set j w.sl := by
  unfold sPar at h
  rw [Option.bind_eq_some_iff] at h
  obtain ⟨⟨rs, ρ1⟩, q1, h⟩ := h
  split at h
  · rename_i r s e1
    rw [Option.bind_eq_some_iff] at h
    obtain ⟨v, q2, h⟩ := h
    rw [Option.map_eq_some_iff] at h
    obtain ⟨w, q3, h⟩ := h
    cases h
    dsimp only at e1
    subst e1
    rw [toVl_eq q2, toVl_eq q3] at q1
    exact ⟨v, w, ρ1, q1, rfl, rfl⟩
  · cases h
theorem sPar3_some {i j l : Nat} {fs : PFs} {ρ ρ' : List Sl} {fl : Fl} (h : sPar3 i j l fs ρ = some (fl, ρ')) : ∃ (v w u : Vl) (ρ1 : List Sl), fs ρ = some ([v.sl, w.sl, u.sl], ρ1) ∧ fl = .nx ∧ ρ' = ((ρ1.set i v.sl).set j w.sl).set l u.sl := by
  unfold sPar3 at h
  rw [Option.bind_eq_some_iff] at h
  obtain ⟨⟨rs, ρ1⟩, q1, h⟩ := h
  split at h
  · rename_i r s t e1
    rw [Option.bind_eq_some_iff] at h
    obtain ⟨v, q2, h⟩ := h
    rw [Option.bind_eq_some_iff] at h
    obtain ⟨w, q3, h⟩ := h
    rw [Option.map_eq_some_iff] at h
    obtain ⟨u, q4, h⟩ := h
    cases h
    dsimp only at e1
    subst e1
    rw [toVl_eq q2, toVl_eq q3, toVl_eq q4] at q1
    exact ⟨v, w, u, ρ1, q1, rfl, rfl⟩
  · cases h
theorem sv_par {i j : Nat} {x y : Str} {fs : PFs} {px py pt : Pos} {kt k2 pt2} (hc : X.calm = true) (hN : X.N.Nodup) (hi : X.N[i]? = some x) (hj : X.N[j]? = some y) (hij : i ≠ j)
    (hx : X.env.scope.names.lookup x = some .local) (hy : X.env.scope.names.lookup y = some .local) (hp : i ∉ pr) (hp' : j ∉ pr) (h : Av X R [a, b] fs)
    (hw : swappedStores [.Tuple [.Name x px, .Name y py] kt pt] (.Tuple [a, b] k2 pt2) X.env = pure (some [x, y]))
    (hs : swapsWithSole [.Tuple [.Name x px, .Name y py] kt pt] (.Tuple [a, b] k2 pt2) pos.line X.env = pure false := by rfl) :
    Sv X R pr (.Assign [.Tuple [.Name x px, .Name y py] kt pt] (.Tuple [a, b] k2 pt2) pos) (sPar i j fs) := by
  refine ⟨fun ρ r ρ' q => ?_, ps_mono (ps_par hc hN hi hj hij hx hy h.pa hw hs) fun D σ H q => ?_⟩
  · obtain ⟨v, w, ρ1, q1, _, rfl⟩ := sPar_some q
    rw [List.length_set, List.length_set]; exact h.len _ _ _ q1
  · obtain ⟨e, F, ρ, tm, fl, ρ', hl, hB, hf, k⟩ := q
    obtain ⟨v, w, ρ1, q1, rfl, rfl⟩ := sPar_some hf
    refine ⟨e, F, ρ, tm, _, ρ1, hl, hB, q1, fun xs H' F' B' k1 => ?_⟩
    have l1 := h.len _ _ _ q1
    have lx := Paired.len k1
    match xs, lx with
    | [x1, x2], _ =>
      refine ⟨x1, x2, rfl, ?_⟩
      have e1 : ([v.sl, w.sl].map tmpOf).zip ([x1, x2].map some) = [(v.sl, some x1), (w.sl, some x2)] := by simp [tmp_sl]
      rw [e1] at B'
      have B2 := Bag.slot (i := i) B' (by omega)
      have B3 := Bag.slot (i := j) B2 (by rw [List.length_set, List.length_set]; omega)
      rw [List.append_nil] at B3
      exact k _ H' F' (by rw [List.length_set, List.length_set]) (fun m hm => by rw [pr_set hp' m hm, pr_set hp m hm]) B3
theorem sv_par3 {i j l : Nat} {x y z : Str} {fs : PFs} {px py pz pt : Pos} {kt k2 pt2} (hc : X.calm = true) (hN : X.N.Nodup) (hi : X.N[i]? = some x) (hj : X.N[j]? = some y) (hl3 : X.N[l]? = some z) (hij : i ≠ j) (hil : i ≠ l) (hjl : j ≠ l)
    (hx : X.env.scope.names.lookup x = some .local) (hy : X.env.scope.names.lookup y = some .local) (hz : X.env.scope.names.lookup z = some .local) (hp : i ∉ pr) (hp' : j ∉ pr) (hp2 : l ∉ pr) (h : Av X R [a, b, c] fs)
    (hw : swappedStores [.Tuple [.Name x px, .Name y py, .Name z pz] kt pt] (.Tuple [a, b, c] k2 pt2) X.env = pure (some [x, y, z]))
    (hs : swapsWithSole [.Tuple [.Name x px, .Name y py, .Name z pz] kt pt] (.Tuple [a, b, c] k2 pt2) pos.line X.env = pure false := by rfl) :
    Sv X R pr (.Assign [.Tuple [.Name x px, .Name y py, .Name z pz] kt pt] (.Tuple [a, b, c] k2 pt2) pos) (sPar3 i j l fs) := by
  refine ⟨fun ρ r ρ' q => ?_, ps_mono (ps_par3 hc hN hi hj hl3 hij hil hjl hx hy hz h.pa hw hs) fun D σ H q => ?_⟩
  · obtain ⟨v, w, u, ρ1, q1, _, rfl⟩ := sPar3_some q
    rw [List.length_set, List.length_set, List.length_set]; exact h.len _ _ _ q1
  · obtain ⟨e, F, ρ, tm, fl, ρ', hl, hB, hf, k⟩ := q
    obtain ⟨v, w, u, ρ1, q1, rfl, rfl⟩ := sPar3_some hf
    refine ⟨e, F, ρ, tm, _, ρ1, hl, hB, q1, fun xs H' F' B' k1 => ?_⟩
    have l1 := h.len _ _ _ q1
    have lx := Paired.len k1
    match xs, lx with
    | [x1, x2, x3], _ =>
      refine ⟨x1, x2, x3, rfl, ?_⟩
      have e1 : ([v.sl, w.sl, u.sl].map tmpOf).zip ([x1, x2, x3].map some) = [(v.sl, some x1), (w.sl, some x2), (u.sl, some x3)] := by simp [tmp_sl]
      rw [e1] at B'
      have B2 := Bag.slot (i := i) B' (by omega)
      have B3 := Bag.slot (i := j) B2 (by rw [List.length_set, List.length_set]; omega)
      have B4 := Bag.slot (i := l) B3 (by simp only [List.length_set]; omega)
      rw [List.append_nil] at B4
      exact k _ H' F' (by simp only [List.length_set]) (fun m hm => by rw [pr_set hp2 m hm, pr_set hp' m hm, pr_set hp m hm]) B4
end
end PL
set_option Elab.async false
set_option linter.all false
set_option maxRecDepth 100000
set_option maxHeartbeats 4000000
/-! PLh: targets, lists that are changed, loops. -/
namespace PL
open PySem PySem.Spec PyProof.Rows L2

/-! ### targets -/
abbrev PGF := PV → List Sl → Option (List Sl)
abbrev PGFs := List PV → List Sl → Option (List Sl)
def gNm (i : Nat) : PGF := fun p ρ => some (ρ.set i (.fz p))
def gsNil : PGFs := fun ps ρ => match ps with
  | [] => some ρ
  | _ => none
def gsCons (g : PGF) (gs : PGFs) : PGFs := fun ps ρ => match ps with
  | p :: r => (g p ρ).bind fun ρ1 => gs r ρ1
  | [] => none
def gTp (gs : PGFs) : PGF := fun p ρ => match p with
  | .tup ps => gs ps ρ
  | _ => none
def TGv (R : RE) (ws : List Nat) (g : PGF) : TG := fun v σ H Q => ∃ (e : En) (F : Hp) (ρ : List Sl) (tm : Bg) (p : PV) (ρ' : List Sl), ρ.length = σ.length ∧ Bag R e F H (ρ.zip σ ++ tm) ∧ Rp R F p v ∧ g p ρ = some ρ' ∧
  ∀ σ', σ'.length = σ.length → (∀ j, j ∉ ws → σ'[j]? = σ[j]?) → Bag R e F H (ρ'.zip σ' ++ tm) → Q σ' H
def TGsv (R : RE) (ws : List Nat) (g : PGFs) : TGs := fun vs σ H Q => ∃ (e : En) (F : Hp) (ρ : List Sl) (tm : Bg) (ps : List PV) (ρ' : List Sl), ρ.length = σ.length ∧ Bag R e F H (ρ.zip σ ++ tm) ∧ RpL R F ps vs ∧ g ps ρ = some ρ' ∧
  ∀ σ', σ'.length = σ.length → (∀ j, j ∉ ws → σ'[j]? = σ[j]?) → Bag R e F H (ρ'.zip σ' ++ tm) → Q σ' H
structure Gv (X : Cx) (R : RE) (t : Expr) (ws : List Nat) (g : PGF) : Prop where
  len : ∀ p ρ ρ', g p ρ = some ρ' → ρ'.length = ρ.length
  pg : PG X t (TGv R ws g)
structure Gsv (X : Cx) (R : RE) (t : List Expr) (ws : List Nat) (g : PGFs) : Prop where
  len : ∀ p ρ ρ', g p ρ = some ρ' → ρ'.length = ρ.length
  pgs : PGs X t (TGsv R ws g)
section
variable {X : Cx} {R : RE} {pos : Pos}
theorem pg_mono {t : Expr} {g g' : TG} (h : PG X t g) (m : ∀ v σ H Q, g' v σ H Q → g v σ H Q) : PG X t g' := ⟨fun pins s σ H v u Q I r q => h.run pins s σ H v u Q I r (m v σ H Q q)⟩
theorem pgs_mono {t : List Expr} {g g' : TGs} (h : PGs X t g) (m : ∀ v σ H Q, g' v σ H Q → g v σ H Q) : PGs X t g' := ⟨fun pins s σ H v u Q I r q => h.run pins s σ H v u Q I r (m v σ H Q q)⟩
theorem gv_name {i : Nat} {x : Str} (hN : X.N.Nodup) (hi : X.N[i]? = some x) (hx : Loc X.env.scope x) (hf : X.fn x = true ∨ X.env.scope.names.lookup x = some .local := by first | exact .inl rfl | exact .inr rfl | assumption) : Gv X R (.Name x pos) [i] (gNm i) := by
  refine ⟨fun p ρ ρ' h => by cases h; rw [List.length_set], pg_mono (pg_name hN hi hx hf) fun v σ H Q h => ?_⟩
  obtain ⟨e, F, ρ, tm, p, ρ', hl, hB, hr, hg, k⟩ := h
  cases hg
  have B2 : Bag R e F H (ρ.zip σ ++ tm ++ (.fz p, some v) :: []) := hB.push_fz hr
  have B3 := Bag.slot (i := i) B2 hl
  rw [List.append_nil] at B3
  exact k _ (by rw [List.length_set]) (fun j hj => List.getElem?_set_ne fun z => hj (by rw [z]; exact List.mem_singleton.mpr rfl)) B3
theorem gsv_nil : Gsv X R [] [] gsNil := by
  refine ⟨fun p ρ ρ' h => ?_, pgs_mono pgs_nil fun v σ H Q h => ?_⟩
  · unfold gsNil at h
    split at h
    · cases h; rfl
    · cases h
  · obtain ⟨e, F, ρ, tm, p, ρ', hl, hB, hr, hg, k⟩ := h
    unfold gsNil at hg
    split at hg
    · cases hg
      cases hr
      exact ⟨rfl, k σ rfl (fun _ _ => rfl) hB⟩
    · cases hg
theorem gsv_cons {t : Expr} {ts : List Expr} {ws vs : List Nat} {g : PGF} {gs : PGFs} (h1 : Gv X R t ws g) (h2 : Gsv X R ts vs gs) (hs : (assignEach (t :: ts) X.env).map (·.2) = assign t X.env :: (assignEach ts X.env).map (·.2) := by rfl) : Gsv X R (t :: ts) (ws ++ vs) (gsCons g gs) := by
  have key : ∀ {ps : List PV} {ρ ρ' : List Sl}, gsCons g gs ps ρ = some ρ' → ∃ p r ρ1, ps = p :: r ∧ g p ρ = some ρ1 ∧ gs r ρ1 = some ρ' := by
    intro ps ρ ρ' h
    unfold gsCons at h
    split at h
    · rename_i p r
      rw [Option.bind_eq_some_iff] at h
      obtain ⟨ρ1, q1, q2⟩ := h
      exact ⟨p, r, ρ1, rfl, q1, q2⟩
    · cases h
  refine ⟨fun p ρ ρ' h => ?_, pgs_mono (pgs_cons h1.pg h2.pgs hs) fun v σ H Q h => ?_⟩
  · obtain ⟨p, r, ρ1, _, q1, q2⟩ := key h
    exact (h2.len _ _ _ q2).trans (h1.len _ _ _ q1)
  · obtain ⟨e, F, ρ, tm, ps, ρ', hl, hB, hr, hg, k⟩ := h
    obtain ⟨p, r, ρ1, rfl, q1, q2⟩ := key hg
    cases hr with
    | @cons _ _ v1 vr r1 r2 =>
      refine ⟨v1, vr, rfl, e, F, ρ, tm, p, ρ1, hl, hB, r1, q1, fun σ1 l1 k1 B1 => ?_⟩
      refine ⟨e, F, ρ1, tm, r, ρ', by have := h1.len _ _ _ q1; omega, B1, r2, q2, fun σ2 l2 k2 B2 => k σ2 (l2.trans l1) (fun j hj => ?_) B2⟩
      rw [List.mem_append, not_or] at hj
      rw [k2 j hj.2, k1 j hj.1]
theorem gv_tup {es : List Expr} {ws : List Nat} {gs : PGFs} {k n : Nat} (hK : R.K = X.K) (hc : X.calm = true) (h : Gsv X R es ws gs) (ln : ∀ ps ρ ρ', gs ps ρ = some ρ' → ps.length = n) (hn : (assignEach es X.env).length = n := by rfl) (hst : (assignEach es X.env).findIdx? (·.1) = none := by rfl) :
    Gv X R (.Tuple es k pos) ws (gTp gs) := by
  refine ⟨fun p ρ ρ' q => ?_, pg_mono (pg_tup hc h.pgs hn hst) fun v σ H Q q => ?_⟩
  · unfold gTp at q
    split at q
    · exact h.len _ _ _ q
    · cases q
  · obtain ⟨e, F, ρ, tm, p, ρ', hl, hB, hr, hg, k⟩ := q
    unfold gTp at hg
    split at hg
    · rename_i ps
      cases hr with
      | tup q r =>
        have l := ln _ _ _ hg
        rw [hK] at q
        exact ⟨_, _, rfl, (hB.sub.sqT q.sq), by rw [← r.length]; exact l, e, F, ρ, tm, ps, ρ', hl, hB, r, hg, k⟩
    · cases hg
theorem gs_len0 : ∀ ps ρ ρ', gsNil ps ρ = some ρ' → ps.length = 0 := fun ps ρ ρ' h => by
  unfold gsNil at h
  split at h
  · rfl
  · cases h
theorem gs_lenS {g : PGF} {gs : PGFs} {n : Nat} (h : ∀ ps ρ ρ', gs ps ρ = some ρ' → ps.length = n) : ∀ ps ρ ρ', gsCons g gs ps ρ = some ρ' → ps.length = n + 1 := fun ps ρ ρ' q => by
  unfold gsCons at q
  split at q
  · rw [Option.bind_eq_some_iff] at q
    obtain ⟨ρ1, _, q2⟩ := q
    rw [List.length_cons, h _ _ _ q2]
  · cases q
end
/-- target = value, the value staying as it is -/
def sAsg (f : PF) (g : PGF) : PSF := fun ρ => (f ρ).bind fun x => (valOf x.1).bind fun p => (g p x.2).map fun ρ' => (.nx, ρ')
section
variable {X : Cx} {R : RE} {pr : List Nat} {a t : Expr} {fa : PF} {g : PGF} {ws : List Nat} {pos : Pos}
theorem sAsg_some {ρ ρ' : List Sl} {fl : Fl} (q : sAsg fa g ρ = some (fl, ρ')) : ∃ r ρ1 p, fa ρ = some (r, ρ1) ∧ valOf r = some p ∧ g p ρ1 = some ρ' ∧ fl = .nx := by
  unfold sAsg at q
  rw [Option.bind_eq_some_iff] at q
  obtain ⟨⟨r, ρ1⟩, h1, q⟩ := q
  rw [Option.bind_eq_some_iff] at q
  obtain ⟨p, h2, q⟩ := q
  rw [Option.map_eq_some_iff] at q
  obtain ⟨ρ2, h3, q⟩ := q
  cases q
  exact ⟨r, ρ1, p, h1, h2, h3, rfl⟩
/-- one temporary, frozen -/
theorem Bag.val {e : En} {F H : Hp} {B : Bg} {r : Sl} {x : V} {p : PV} (h : Bag R e F H (B ++ [(tmpOf r, some x)])) (v : valOf r = some p) : ∃ F', Sub F F' ∧ Bag R e F' H B ∧ Rp R F' p x := by
  have h2 : Bag R e F H (B ++ [r].zip ([x].map some)) := by rw [valOf_tmp v] at h; exact h
  obtain ⟨F', s, h3, q⟩ := h2.vals rfl (ps := [p]) (by unfold valsOf; rw [v]; rfl)
  cases q with
  | cons q _ => exact ⟨F', s, h3, q⟩
theorem sv_asg (h : Ev X R a fa) (hg : Gv X R t ws g) (hp : ∀ i ∈ pr, i ∉ ws) (hs : swapsWithSole [t] a pos.line X.env = pure false := by rfl) (hw : swappedStores [t] a X.env = pure none := by rfl)
    (h1 : (assignEach [t] X.env).map (·.2) = [assign t X.env] := by rfl) : Sv X R pr (.Assign [t] a pos) (sAsg fa g) := by
  refine ⟨fun ρ r ρ' q => ?_, ps_mono (ps_asg h.pe hg.pg hs hw h1) fun D σ H q => ?_⟩
  · obtain ⟨r, ρ1, p, q1, q2, q3, _⟩ := sAsg_some q
    exact (hg.len _ _ _ q3).trans (h.len _ _ _ q1)
  · obtain ⟨e, F, ρ, tm, fl, ρ', hl, hB, hf, k⟩ := q
    obtain ⟨r, ρ1, p, q1, q2, q3, rfl⟩ := sAsg_some hf
    have l1 := h.len _ _ _ q1
    refine ⟨e, F, ρ, tm, r, ρ1, hl, hB, q1, fun x H1 F1 B1 _ => ?_⟩
    obtain ⟨F2, s2, B2, rp⟩ := B1.val q2
    exact ⟨e, F2, ρ1, tm, p, ρ', by omega, B2, rp, q3, fun σ' l' k' B' => k σ' H1 F2 l' (fun i hi => k' i (hp i hi)) B'⟩
end

/-! ### lists of one's own, changed -/
/-- xs.append(e), xs in slot i -/
def eAppend (i : Nat) (f : PF) : PF := fun ρ => match ρ[i]? with
  | some (.own _) => (f ρ).bind fun x => (valOf x.1).bind fun p => match x.2[i]? with
    | some (.own xs) => if xs.length < lineN then some (.fz .non, x.2.set i (.own (xs ++ [p]))) else none
    | _ => none
  | _ => none
def eExtend (i : Nat) (f : PF) : PF := fun ρ => match ρ[i]? with
  | some (.own _) => (f ρ).bind fun x => (cont x.2 x.1).bind fun p => match p, x.2[i]? with
    | .lst ys, some (.own xs) => if xs.length + ys.length ≤ lineN then some (.fz .non, x.2.set i (.own (xs ++ ys))) else none
    | _, _ => none
  | _ => none
def ePop (i : Nat) : PF := fun ρ => match ρ[i]? with
  | some (.own xs) => (xs[xs.length - 1]?).map fun p => (.fz p, ρ.set i (.own xs.dropLast))
  | _ => none
section
variable {X : Cx} {R : RE} {pr : List Nat} {a : Expr} {fa : PF} {pos apos : Pos}
theorem slot_own {e : En} {F H : Hp} {ρ : List Sl} {σ : L2.St} {tm : Bg} (h : Bag R e F H (ρ.zip σ ++ tm)) (hl : ρ.length = σ.length) {i : Nat} {xs : List PV} (g : ρ[i]? = some (.own xs)) : ∃ a vs, σ[i]? = some (some (.ref a)) ∧ (ρ.zip σ ++ tm)[i]? = some (.own xs, some (.ref a)) ∧ F a = none ∧ H a = some (.lst vs) ∧ RpL R F xs vs := by
  obtain ⟨o, h2, h3, a, vs, rfl, h4, h5, h6⟩ := slot_some h hl g
  exact ⟨a, vs, h2, h3, h4, h5, h6⟩
/-- slot i written -/
theorem Bag.wslot {e : En} {F H : Hp} {ρ : List Sl} {σ : L2.St} {tm : Bg} (h : Bag R e F H (ρ.zip σ ++ tm)) (hl : ρ.length = σ.length) {i : Nat} {xs ys : List PV} {a : Addr} {us : List V} (g : ρ[i]? = some (.own xs)) (hs : σ[i]? = some (some (.ref a))) (hF : F a = none) (r : RpL R F ys us) :
    Bag R e F (upd H a (.lst us)) ((ρ.set i (.own ys)).zip σ ++ tm) := by
  have hi := (List.getElem?_eq_some_iff.mp g).1
  have h3 : (ρ.zip σ ++ tm)[i]? = some (.own xs, some (.ref a)) := app_get' (zip_get g hs)
  have h4 := h.write (t := .own ys) (o := .lst us) h3 rfl rfl ⟨a, us, rfl, hF, upd_same, r⟩
  rw [List.set_append_left _ _ (zip_lt hi hl), ← zip_set hs] at h4
  exact h4
theorem ev_append {i : Nat} {x : Str} {npos : Pos} (hN : X.N[i]? = some x) (hv : Vis X.env.scope x) (h : Ev X R a fa) (hd : (x == ("__debug__" : Str)) = false := by decide) (hcd : (x == ("__classdict__" : Str)) = false := by decide)
    (hbase : attributeBase (.Name x npos) "append" X.env (eval (.Name x npos) X.env) = eval (.Name x npos) X.env := by rfl)
    (hfew : ((backTo pos (starEach [a] X.env)).all (fun x => !x.1) && (backToKw pos (keywordEach [] X.env)).all (fun x => x.1.isSome)
      && decide (([a] : List Expr).length + ([] : List Keyword).length + (if ([] : List Keyword).isEmpty then 0 else 1) < 30)) = true := by rfl)
    (hline : (apos.endLine == pos.line) = true := by rfl) (hs : starEach [a] X.env = (false, eval a X.env) :: starEach [] X.env := by rfl) (hplain : (backTo pos (starEach [] X.env)).any (·.1) = false := by rfl) :
    Ev X R (.Call (.Attribute (.Name x npos) "append" apos) [a] [] pos) (eAppend i fa) := by
  have key : ∀ {ρ ρ' : List Sl} {r : Sl}, eAppend i fa ρ = some (r, ρ') → ∃ xs0 r1 ρ1 p xs, ρ[i]? = some (.own xs0) ∧ fa ρ = some (r1, ρ1) ∧ valOf r1 = some p ∧ ρ1[i]? = some (.own xs) ∧ xs.length < lineN ∧ r = .fz .non ∧ ρ' = ρ1.set i (.own (xs ++ [p])) := by
    intro ρ ρ' r q
    unfold eAppend at q
    split at q
    · rename_i xs0 g0
      rw [Option.bind_eq_some_iff] at q
      obtain ⟨⟨r1, ρ1⟩, h1, q⟩ := q
      rw [Option.bind_eq_some_iff] at q
      obtain ⟨p, h2, q⟩ := q
      split at q
      · rename_i xs g1
        split at q
        · cases q
          exact ⟨xs0, r1, ρ1, p, xs, g0, h1, h2, g1, by assumption, rfl, rfl⟩
        · cases q
      · cases q
    · cases q
  refine ⟨fun ρ r ρ' q => ?_, pe_mono (pe_bm PySem.F.plainAttrs_list PySem.F.slot_list_append PySem.F.type_list_append mt_append (pe_var hN hv hd hcd) (pa_cons h.pe pa_nil hs) hbase hfew hline hs hplain) fun σ H Q q => ?_⟩
  · obtain ⟨xs0, r1, ρ1, p, xs, _, h1, _, _, _, _, rfl⟩ := key q
    rw [List.length_set]; exact h.len _ _ _ h1
  · obtain ⟨e, F, ρ, tm, r, ρ', hl, hB, hf, k⟩ := q
    obtain ⟨xs0, r1, ρ1, p, xs, g0, h1, h2, g1, hz, rfl, rfl⟩ := key hf
    obtain ⟨b, vs0, s0, _, _, hb0, _⟩ := slot_own hB hl g0
    refine ⟨.ref b, s0, .inl ⟨rfl, _, SqL.of hb0⟩, e, F, ρ, tm, r1, ρ1, hl, hB, h1, fun y H1 F1 B1 _ => ?_⟩
    obtain ⟨F2, s2, B2, rp⟩ := B1.val h2
    have l1 := h.len _ _ _ h1
    obtain ⟨b', vs, s1, _, hF, hH, hr⟩ := slot_own B2 (by omega) g1
    have eb : b' = b := by rw [s0] at s1; cases s1; rfl
    subst eb
    refine ⟨b', vs, y, rfl, rfl, hH, by rw [← hr.length, ← lineN_eq]; exact hz, ?_⟩
    have B3 := B2.wslot (by omega) g1 s1 hF (hr.append (.one rp))
    exact k _ _ F2 (B3.push_fz .non) pk_fz
theorem ev_extend {i : Nat} {x : Str} {npos : Pos} (hN : X.N[i]? = some x) (hv : Vis X.env.scope x) (h : Ev X R a fa) (hd : (x == ("__debug__" : Str)) = false := by decide) (hcd : (x == ("__classdict__" : Str)) = false := by decide)
    (hbase : attributeBase (.Name x npos) "extend" X.env (eval (.Name x npos) X.env) = eval (.Name x npos) X.env := by rfl)
    (hfew : ((backTo pos (starEach [a] X.env)).all (fun x => !x.1) && (backToKw pos (keywordEach [] X.env)).all (fun x => x.1.isSome)
      && decide (([a] : List Expr).length + ([] : List Keyword).length + (if ([] : List Keyword).isEmpty then 0 else 1) < 30)) = true := by rfl)
    (hline : (apos.endLine == pos.line) = true := by rfl) (hs : starEach [a] X.env = (false, eval a X.env) :: starEach [] X.env := by rfl) (hplain : (backTo pos (starEach [] X.env)).any (·.1) = false := by rfl) :
    Ev X R (.Call (.Attribute (.Name x npos) "extend" apos) [a] [] pos) (eExtend i fa) := by
  have key : ∀ {ρ ρ' : List Sl} {r : Sl}, eExtend i fa ρ = some (r, ρ') → ∃ xs0 r1 ρ1 ys xs, ρ[i]? = some (.own xs0) ∧ fa ρ = some (r1, ρ1) ∧ cont ρ1 r1 = some (.lst ys) ∧ ρ1[i]? = some (.own xs) ∧ xs.length + ys.length ≤ lineN ∧ r = .fz .non ∧ ρ' = ρ1.set i (.own (xs ++ ys)) := by
    intro ρ ρ' r q
    unfold eExtend at q
    split at q
    · rename_i xs0 g0
      rw [Option.bind_eq_some_iff] at q
      obtain ⟨⟨r1, ρ1⟩, h1, q⟩ := q
      rw [Option.bind_eq_some_iff] at q
      obtain ⟨p, h2, q⟩ := q
      split at q
      · rename_i ys xs g1
        split at q
        · cases q
          exact ⟨xs0, r1, ρ1, ys, xs, g0, h1, h2, g1, by assumption, rfl, rfl⟩
        · cases q
      · cases q
    · cases q
  refine ⟨fun ρ r ρ' q => ?_, pe_mono (pe_bm PySem.F.plainAttrs_list PySem.F.slot_list_extend PySem.F.type_list_extend mt_extend (pe_var hN hv hd hcd) (pa_cons h.pe pa_nil hs) hbase hfew hline hs hplain) fun σ H Q q => ?_⟩
  · obtain ⟨xs0, r1, ρ1, p, xs, _, h1, _, _, _, _, rfl⟩ := key q
    rw [List.length_set]; exact h.len _ _ _ h1
  · obtain ⟨e, F, ρ, tm, r, ρ', hl, hB, hf, k⟩ := q
    obtain ⟨xs0, r1, ρ1, ys, xs, g0, h1, h2, g1, hz, rfl, rfl⟩ := key hf
    obtain ⟨b, vs0, s0, _, _, hb0, _⟩ := slot_own hB hl g0
    refine ⟨.ref b, s0, .inl ⟨rfl, _, SqL.of hb0⟩, e, F, ρ, tm, r1, ρ1, hl, hB, h1, fun y H1 F1 B1 k1 => ?_⟩
    have q1 : Rq R F1 H1 (.lst ys) y := by
      have g1 : (ρ1.zip σ ++ tm ++ [(tmpOf r1, some y)])[(ρ1.zip σ ++ tm).length]? = some (tmpOf r1, some y) := app_last
      have B1' := B1
      rw [List.append_assoc] at B1' g1
      exact B1'.rq g1 k1 h2
    have B2 := B1.pop
    have l1 := h.len _ _ _ h1
    obtain ⟨c, us, rfl, hc, rc⟩ := q1.lst B2.sub
    obtain ⟨b', vs, s1, _, hF, hH, hr⟩ := slot_own B2 (by omega) g1
    have eb : b' = b := by rw [s0] at s1; cases s1; rfl
    subst eb
    refine ⟨b', c, vs, us, rfl, rfl, hH, hc, by rw [← hr.length, ← rc.length, ← lineN_eq]; exact hz, ?_⟩
    have B3 := B2.wslot (by omega) g1 s1 hF (hr.append rc)
    exact k _ _ F1 (B3.push_fz .non) pk_fz
theorem RpL.dropLast {F : Hp} {ps : List PV} {vs : List V} (h : RpL R F ps vs) : RpL R F ps.dropLast vs.dropLast := by
  rw [List.dropLast_eq_take, List.dropLast_eq_take, h.length]; exact h.take _
theorem ev_pop {i : Nat} {x : Str} {npos : Pos} (hN : X.N[i]? = some x) (hv : Vis X.env.scope x) (hd : (x == ("__debug__" : Str)) = false := by decide) (hcd : (x == ("__classdict__" : Str)) = false := by decide)
    (hbase : attributeBase (.Name x npos) "pop" X.env (eval (.Name x npos) X.env) = eval (.Name x npos) X.env := by rfl) (hline : (apos.endLine == pos.line) = true := by rfl) :
    Ev X R (.Call (.Attribute (.Name x npos) "pop" apos) [] [] pos) (ePop i) := by
  have key : ∀ {ρ ρ' : List Sl} {r : Sl}, ePop i ρ = some (r, ρ') → ∃ xs p, ρ[i]? = some (.own xs) ∧ xs[xs.length - 1]? = some p ∧ r = .fz p ∧ ρ' = ρ.set i (.own xs.dropLast) := by
    intro ρ ρ' r q
    unfold ePop at q
    split at q
    · rename_i xs g0
      rw [Option.map_eq_some_iff] at q
      obtain ⟨p, h1, q⟩ := q
      cases q
      exact ⟨xs, p, g0, h1, rfl, rfl⟩
    · cases q
  refine ⟨fun ρ r ρ' q => ?_, pe_mono (pe_bm0 PySem.F.plainAttrs_list PySem.F.slot_list_pop PySem.F.type_list_pop mt_pop (pe_var hN hv hd hcd) hbase hline) fun σ H Q q => ?_⟩
  · obtain ⟨xs, p, _, _, _, rfl⟩ := key q
    rw [List.length_set]
  · obtain ⟨e, F, ρ, tm, r, ρ', hl, hB, hf, k⟩ := q
    obtain ⟨xs, p, g0, h1, rfl, rfl⟩ := key hf
    obtain ⟨b, vs, s0, _, hF, hb, hr⟩ := slot_own hB hl g0
    obtain ⟨v, hv, rv⟩ := hr.get' h1
    refine ⟨.ref b, s0, .inl ⟨rfl, _, SqL.of hb⟩, b, vs, v, rfl, rfl, hb, by rw [← hr.length]; exact hv, ?_⟩
    have B3 := hB.wslot hl g0 s0 hF hr.dropLast
    exact k _ _ F (B3.push_fz rv) pk_fz
/-- xs[i] = e, xs in slot k -/
def sSetIx (i : Nat) (fa fi : PF) : PSF := fun ρ => (fa ρ).bind fun x => (valOf x.1).bind fun p => match x.2[i]? with
  | some (.own _) => (fi x.2).bind fun y => match y.1, y.2[i]? with
    | .fz (.int j), some (.own xs) => (ixN xs.length j).map fun m => (.nx, y.2.set i (.own (xs.set m p)))
    | _, _ => none
  | _ => none
theorem sv_setIx {i : Nat} {x : Str} {npos spos : Pos} {b : Expr} {fb : PF} (hN : X.N[i]? = some x) (hv : Vis X.env.scope x) (h : Ev X R a fa) (hi : Ev X R b fb) (hd : (x == ("__debug__" : Str)) = false := by decide) (hcd : (x == ("__classdict__" : Str)) = false := by decide)
    (ha : ∀ v, assign (.Subscript (.Name x npos) b spos) X.env v = (do
      let ov ← holding [v] (eval (.Name x npos) X.env)
      let iv ← holding [v, ov] (eval b X.env)
      standAt spos
      holding [v, ov, iv] (setItem ov iv v)
      release [v, ov, iv] []) := by intro _; rfl)
    (hs : swapsWithSole [.Subscript (.Name x npos) b spos] a pos.line X.env = pure false := by rfl) (hw : swappedStores [.Subscript (.Name x npos) b spos] a X.env = pure none := by rfl)
    (h1 : (assignEach [.Subscript (.Name x npos) b spos] X.env).map (·.2) = [assign (.Subscript (.Name x npos) b spos) X.env] := by rfl) : Sv X R pr (.Assign [.Subscript (.Name x npos) b spos] a pos) (sSetIx i fa fb) := by
  have key : ∀ {ρ ρ' : List Sl} {fl : Fl}, sSetIx i fa fb ρ = some (fl, ρ') → ∃ r1 ρ1 p ρ2 j xs m xs0, fa ρ = some (r1, ρ1) ∧ valOf r1 = some p ∧ ρ1[i]? = some (.own xs0) ∧ fb ρ1 = some (.fz (.int j), ρ2) ∧ ρ2[i]? = some (.own xs) ∧ ixN xs.length j = some m ∧ fl = .nx ∧ ρ' = ρ2.set i (.own (xs.set m p)) := by
    intro ρ ρ' r q
    unfold sSetIx at q
    rw [Option.bind_eq_some_iff] at q
    obtain ⟨⟨r1, ρ1⟩, h1, q⟩ := q
    rw [Option.bind_eq_some_iff] at q
    obtain ⟨p, h2, q⟩ := q
    split at q
    · rename_i xs0 g0
      rw [Option.bind_eq_some_iff] at q
      obtain ⟨⟨r2, ρ2⟩, h3, q⟩ := q
      split at q
      · rename_i j xs e1 e2
        rw [Option.map_eq_some_iff] at q
        obtain ⟨m, h4, q⟩ := q
        cases q
        dsimp only at e1
        subst e1
        exact ⟨r1, ρ1, p, ρ2, j, xs, m, xs0, h1, h2, g0, h3, e2, h4, rfl, rfl⟩
      · cases q
    · cases q
  refine ⟨fun ρ r ρ' q => ?_, ps_mono (ps_asg h.pe (pg_sub (pe_var hN hv hd hcd) hi.pe set_list ha) hs hw h1) fun D σ H q => ?_⟩
  · obtain ⟨r1, ρ1, p, ρ2, j, xs, m, xs0, h1, h2, _, h3, _, _, _, rfl⟩ := key q
    rw [List.length_set]; exact (hi.len _ _ _ h3).trans (h.len _ _ _ h1)
  · obtain ⟨e, F, ρ, tm, fl, ρ', hl, hB, hf, k⟩ := q
    obtain ⟨r1, ρ1, p, ρ2, j, xs, m, xs0, h1, h2, g0, h3, h4, h5, rfl, rfl⟩ := key hf
    have l1 := h.len _ _ _ h1
    have l2 := hi.len _ _ _ h3
    refine ⟨e, F, ρ, tm, r1, ρ1, hl, hB, h1, fun y H1 F1 B1 _ => ?_⟩
    obtain ⟨F2, s2, B2, rp⟩ := B1.val h2
    have B2' := B2.push_fz rp
    rw [List.append_assoc] at B2'
    obtain ⟨a0, vs0, hv', _⟩ := slot_own B2 (by omega) g0
    refine ⟨.ref a0, hv', e, F2, ρ1, _, _, ρ2, by omega, B2', h3, fun z H3 F3 B3 _ => ?_⟩
    have ez := (B3.rq_fz (x := z) (p := .int j) app_last).int
    have B4 := B3.pop
    obtain ⟨b', vs, s1, _, hF, hH, hr⟩ := slot_own B4 (by omega) h4
    rw [hv'] at s1
    cases s1
    refine ⟨a0, vs, j, m, rfl, ez, hH, by rw [← hr.length]; exact h5, ?_⟩
    obtain ⟨y2, ey, rp3⟩ := B4.all (ρ2.zip σ ++ tm).length _ _ (by rw [← List.append_assoc]; exact app_last)
    cases ey
    have B5 := B4.wslot (by omega) h4 hv' hF (hr.set (i := m) rp3)
    rw [← List.append_assoc] at B5
    exact k σ _ F3 rfl (fun _ _ => rfl) B5.pop
end
end PL
set_option Elab.async false
set_option linter.all false
set_option maxRecDepth 100000
set_option maxHeartbeats 4000000
/-! PLi: for, while, comprehensions. -/
namespace PL
open PySem PySem.Spec PyProof.Rows L2

/-- what is walked: its items, what is held meanwhile -/
abbrev PIF := List Sl → Option (List PV × List Sl × List Sl)
/-- the walk J gives these items while the held things are there -/
def WkOk (R : RE) (J : It) (items : List PV) (tI : Bg) : Prop := ∀ (e : En) (F H : Hp) (B : Bg) (i : Nat), Bag R e F H (B ++ tI) →
  (i < items.length → J.go i H ∧ ∀ x H', J.yld i H x H' → ∃ p F2, items[i]? = some p ∧ Bag R e F2 H' (B ++ tI) ∧ Rp R F2 p x) ∧ (i = items.length → J.stop i H)
def TIv (R : RE) (w : PIF) : TI := fun σ H Rr => ∃ (e : En) (F : Hp) (ρ : List Sl) (tm : Bg) (items : List PV) (rs : List Sl) (ρ' : List Sl), ρ.length = σ.length ∧ Bag R e F H (ρ.zip σ ++ tm) ∧ w ρ = some (items, rs, ρ') ∧
  ∀ J H' F' xs, Bag R e F' H' (ρ'.zip σ ++ tm ++ (rs.map tmpOf).zip (xs.map some)) → Paired (fun r x => PkOk r σ x) rs xs → WkOk R J items ((rs.map tmpOf).zip (xs.map some)) → items.length ≤ sizeLine → Rr J H'
structure Iv (X : Cx) (R : RE) (tg iter : Expr) (w : PIF) : Prop where
  len : ∀ ρ a b ρ', w ρ = some (a, b, ρ') → ρ'.length = ρ.length
  pi : PI X tg iter (TIv R w)

/-! ### for -/
def forP (g : PGF) (body : PSF) : List PV → PSF
  | [], ρ => some (.nx, ρ)
  | p :: ps, ρ => (g p ρ).bind fun ρ1 => (body ρ1).bind fun x => match x.1 with
    | .nx => forP g body ps x.2
    | .ct => forP g body ps x.2
    | .bk => some (.nx, x.2)
    | .rt v => some (.rt v, x.2)
def sFor (w : PIF) (g : PGF) (body : PSF) : PSF := fun ρ => (w ρ).bind fun x => forP g body x.1 x.2.2
section
variable {X : Cx} {R : RE} {pr ws : List Nat} {tg iter : Expr} {w : PIF} {g : PGF} {f : PSF} {body : List Stmt} {pos : Pos}
theorem forP_len (lg : ∀ p ρ ρ', g p ρ = some ρ' → ρ'.length = ρ.length) (lf : ∀ ρ r ρ', f ρ = some (r, ρ') → ρ'.length = ρ.length) : ∀ (items : List PV) (ρ : List Sl) (fl : Fl) (ρ' : List Sl), forP g f items ρ = some (fl, ρ') → ρ'.length = ρ.length
  | [], ρ, fl, ρ', h => by cases h; rfl
  | p :: ps, ρ, fl, ρ', h => by
    unfold forP at h
    rw [Option.bind_eq_some_iff] at h
    obtain ⟨ρ1, h1, h⟩ := h
    rw [Option.bind_eq_some_iff] at h
    obtain ⟨⟨fb, ρ2⟩, h2, h⟩ := h
    have l := (lf _ _ _ h2).trans (lg _ _ _ h1)
    cases fb with
    | nx => exact (forP_len lg lf ps _ _ _ h).trans l
    | ct => exact (forP_len lg lf ps _ _ _ h).trans l
    | bk => cases h; exact l
    | rt v => cases h; exact l
theorem sub_tm {B tm tI C : Bg} : (B ++ tm ++ C).Sublist (B ++ (tm ++ tI) ++ C) := by
  refine List.Sublist.append ?_ (List.Sublist.refl C)
  rw [← List.append_assoc]
  exact List.sublist_append_left _ _
theorem sv_for (hp : PassesOwn (model X.prog X.w) X.A X.env X.xe) (hc : X.calm = true) (hw : Iv X R tg iter w) (hg : Gv X R tg ws g) (hb : SSv X R pr body f) (hpr : ∀ i ∈ pr, i ∉ ws) (hs : ∀ x, foldedSetIterable iter X.env x = pure x := by intro _; rfl) :
    Sv X R pr (.For tg iter body [] pos) (sFor w g f) := by
  refine ⟨fun ρ r ρ' h => ?_, ps_mono (ps_for hp hc hw.pi hg.pg hb.ps hs) fun D σ H h => ?_⟩
  · unfold sFor at h
    rw [Option.bind_eq_some_iff] at h
    obtain ⟨⟨items, rs, ρ1⟩, h1, h⟩ := h
    exact (forP_len hg.len hb.len _ _ _ _ h).trans (hw.len _ _ _ _ h1)
  · obtain ⟨e, F, ρ, tm, fl, ρ', hl, hB, hf, k⟩ := h
    unfold sFor at hf
    rw [Option.bind_eq_some_iff] at hf
    obtain ⟨⟨items, rs, ρ1⟩, h1, hf⟩ := hf
    have l1 := hw.len _ _ _ _ h1
    refine ⟨e, F, ρ, tm, items, rs, ρ1, hl, hB, h1, fun J H1 F1 xs B1 k1 wk _ => ?_⟩
    generalize htI : (rs.map tmpOf).zip (xs.map some) = tI at B1 wk
    refine ⟨fun i m σ1 H1 => m = items.length - i ∧ i ≤ items.length ∧ ∃ F1 ρ1, ρ1.length = σ1.length ∧ σ1.length = σ.length ∧ (∀ j ∈ pr, σ1[j]? = σ[j]?) ∧ Bag R e F1 H1 (ρ1.zip σ1 ++ tm ++ tI) ∧ forP g f (items.drop i) ρ1 = some (fl, ρ'), ⟨_, rfl, Nat.zero_le _, F1, ρ1, by omega, rfl, fun _ _ => rfl, B1, by simpa using hf⟩, ?_⟩
    rintro i m σ2 H2 ⟨rfl, hi, F2, ρ2, l2, l2', p2, B2, h2⟩
    obtain ⟨wgo, wstop⟩ := wk e F2 H2 _ i B2
    by_cases hlt : i < items.length
    · obtain ⟨go, yl⟩ := wgo hlt
      have ed : items.drop i = items[i] :: items.drop (i + 1) := by rw [List.drop_eq_getElem_cons hlt]
      rw [ed] at h2
      unfold forP at h2
      rw [Option.bind_eq_some_iff] at h2
      obtain ⟨ρ3, g3, h2⟩ := h2
      rw [Option.bind_eq_some_iff] at h2
      obtain ⟨⟨fb, ρ4⟩, g4, h2⟩ := h2
      have l3 := hg.len _ _ _ g3
      have l4 := hb.len _ _ _ g4
      refine .inr ⟨go, fun σ' H' => ∃ F1 ρ1, ρ1.length = σ'.length ∧ σ'.length = σ.length ∧ (∀ j ∈ pr, σ'[j]? = σ[j]?) ∧ Bag R e F1 H' (ρ1.zip σ' ++ tm ++ tI) ∧ forP g f (items.drop (i + 1)) ρ1 = some (fl, ρ'), fun σ' H' hN => ⟨items.length - (i + 1), by omega, rfl, by omega, hN⟩, fun x H' y => ?_⟩
      obtain ⟨p, F3, ep, B3, rp⟩ := yl x H' y
      have ep' : p = items[i] := by rw [List.getElem?_eq_getElem hlt] at ep; cases ep; rfl
      subst ep'
      rw [List.append_assoc] at B3
      refine ⟨e, F3, ρ2, tm ++ tI, _, ρ3, l2, B3, rp, g3, fun σ3 ls3 ks3 B4 => ?_⟩
      refine ⟨e, F3, ρ3, tm ++ tI, fb, ρ4, by omega, B4, g4, fun σ4 H4 F4 ls4 ks4 => ?_⟩
      have prk : ∀ j ∈ pr, σ4[j]? = σ[j]? := fun j hj => by rw [ks4 j hj, ks3 j (hpr j hj), p2 j hj]
      have again : forP g f (items.drop (i + 1)) ρ4 = some (fl, ρ') → Bag R e F4 H4 (ρ4.zip σ4 ++ (tm ++ tI)) → ∃ F1 ρ1, ρ1.length = σ4.length ∧ σ4.length = σ.length ∧ (∀ j ∈ pr, σ4[j]? = σ[j]?) ∧ Bag R e F1 H4 (ρ1.zip σ4 ++ tm ++ tI) ∧ forP g f (items.drop (i + 1)) ρ1 = some (fl, ρ') := fun h5 B5 =>
        ⟨F4, ρ4, by omega, by omega, prk, by rw [List.append_assoc]; exact B5, h5⟩
      cases fb with
      | nx => exact again h2
      | ct => exact again h2
      | bk =>
        cases h2
        intro B5
        refine k σ4 H4 F4 (by omega) prk ?_
        rw [← List.append_assoc] at B5
        exact B5.sublist (List.sublist_append_left _ _)
      | rt v =>
        cases h2
        intro x5 B5
        exact k σ4 H4 F4 (by omega) prk x5 (B5.sublist sub_tm)
    · have ei : i = items.length := by omega
      rw [ei, List.drop_length] at h2
      cases h2
      refine .inl ⟨wstop ei, ?_⟩
      refine k σ2 H2 F2 l2' p2 ?_
      exact B2.sublist (List.sublist_append_left _ _)
end

/-! ### while -/
def wNext (k : PSF) (x : Fl × List Sl) : Option (Fl × List Sl) := match x.1 with
  | .nx => k x.2
  | .ct => k x.2
  | .bk => some (.nx, x.2)
  | .rt v => some (.rt v, x.2)
theorem wNext_mono {k k' : PSF} {x : Fl × List Sl} {r : Fl × List Sl} (h : ∀ ρ r, k ρ = some r → k' ρ = some r) (q : wNext k x = some r) : wNext k' x = some r := by
  obtain ⟨fb, ρ⟩ := x
  cases fb with
  | nx => exact h _ _ q
  | ct => exact h _ _ q
  | bk => exact q
  | rt v => exact q
def whileN (g : PT') (body : PSF) : Nat → PSF
  | 0 => fun _ => none
  | n + 1 => fun ρ => (g ρ).bind fun c => if c.1 = true then (body c.2).bind (wNext (whileN g body n)) else some (.nx, c.2)
open Classical in
noncomputable def sWhile (g : PT') (body : PSF) : PSF := fun ρ => if h : ∃ n r, whileN g body n ρ = some r then whileN g body h.choose ρ else none
theorem while_step {g : PT'} {f k k' : PSF} {ρ : List Sl} {r : Fl × List Sl} (m : ∀ ρ r, k ρ = some r → k' ρ = some r) (h : ((g ρ).bind fun c => if c.1 = true then (f c.2).bind (wNext k) else some (.nx, c.2)) = some r) : ((g ρ).bind fun c => if c.1 = true then (f c.2).bind (wNext k') else some (.nx, c.2)) = some r := by
  rw [Option.bind_eq_some_iff] at h ⊢
  obtain ⟨⟨c, ρ1⟩, h1, h⟩ := h
  refine ⟨(c, ρ1), h1, ?_⟩
  cases c with
  | false => exact h
  | true =>
    rw [if_pos rfl] at h ⊢
    rw [Option.bind_eq_some_iff] at h ⊢
    obtain ⟨x, h2, h⟩ := h
    exact ⟨x, h2, wNext_mono m h⟩
theorem whileN_mono {g : PT'} {f : PSF} : ∀ {n : Nat} {ρ : List Sl} {r : Fl × List Sl}, whileN g f n ρ = some r → ∀ m, n ≤ m → whileN g f m ρ = some r
  | 0, _, _, h, _, _ => by cases h
  | n + 1, ρ, r, h, 0, hm => by omega
  | n + 1, ρ, r, h, m + 1, hm => while_step (fun ρ r q => whileN_mono q m (by omega)) h
theorem sWhile_iff {g : PT'} {f : PSF} {ρ : List Sl} {r : Fl × List Sl} : sWhile g f ρ = some r ↔ ∃ n, whileN g f n ρ = some r := by
  constructor
  · intro h
    unfold sWhile at h
    split at h
    · exact ⟨_, h⟩
    · cases h
  · rintro ⟨n, h⟩
    have ex : ∃ n r, whileN g f n ρ = some r := ⟨n, r, h⟩
    unfold sWhile
    rw [dif_pos ex]
    obtain ⟨r', hr'⟩ := ex.choose_spec
    have h1 := whileN_mono hr' (max ex.choose n) (by omega)
    have h2 := whileN_mono h (max ex.choose n) (by omega)
    rw [h1] at h2
    cases h2
    exact hr'
/-- one turn more -/
theorem sWhile_eq {g : PT'} {f : PSF} {ρ : List Sl} : sWhile g f ρ = (g ρ).bind fun c => if c.1 = true then (f c.2).bind (wNext (sWhile g f)) else some (.nx, c.2) := by
  have key : ∀ r, sWhile g f ρ = some r ↔ ((g ρ).bind fun c => if c.1 = true then (f c.2).bind (wNext (sWhile g f)) else some (.nx, c.2)) = some r := by
    intro r
    rw [sWhile_iff]
    constructor
    · rintro ⟨n, h⟩
      cases n with
      | zero => cases h
      | succ n => exact while_step (fun ρ r q => sWhile_iff.mpr ⟨n, q⟩) h
    · intro h
      have hq := h
      rw [Option.bind_eq_some_iff] at h
      obtain ⟨⟨c, ρ1⟩, h1, h⟩ := h
      have goal : ∀ n, ((g ρ).bind fun c => if c.1 = true then (f c.2).bind (wNext (whileN g f n)) else some (.nx, c.2)) = some r → ∃ n, whileN g f n ρ = some r := fun n q => ⟨n + 1, q⟩
      cases c with
      | false => exact goal 0 (by rw [h1]; exact h)
      | true =>
        rw [if_pos rfl] at h
        rw [Option.bind_eq_some_iff] at h
        obtain ⟨⟨fb, ρ2⟩, h2, h⟩ := h
        dsimp only at h2
        have fin : ∀ n, wNext (whileN g f n) (fb, ρ2) = some r → ∃ n, whileN g f n ρ = some r := fun n q => goal n (by
          rw [h1]
          show (f ρ1).bind (wNext (whileN g f n)) = some r
          rw [h2]
          exact q)
        cases fb with
        | nx => obtain ⟨n, hn⟩ := sWhile_iff.mp h; exact fin n hn
        | ct => obtain ⟨n, hn⟩ := sWhile_iff.mp h; exact fin n hn
        | bk => exact fin 0 h
        | rt v => exact fin 0 h
  cases q : sWhile g f ρ with
  | some r => exact ((key r).mp q).symm
  | none =>
    cases q2 : ((g ρ).bind fun c => if c.1 = true then (f c.2).bind (wNext (sWhile g f)) else some (.nx, c.2)) with
    | none => rfl
    | some r => rw [(key r).mpr q2] at q; cases q
section
variable {X : Cx} {R : RE} {pr : List Nat} {c : Expr} {g : PT'} {f : PSF} {body : List Stmt} {pos : Pos}
theorem whileN_len (lg : ∀ ρ r ρ', g ρ = some (r, ρ') → ρ'.length = ρ.length) (lf : ∀ ρ r ρ', f ρ = some (r, ρ') → ρ'.length = ρ.length) : ∀ (n : Nat) (ρ : List Sl) (fl : Fl) (ρ' : List Sl), whileN g f n ρ = some (fl, ρ') → ρ'.length = ρ.length
  | 0, _, _, _, h => by cases h
  | n + 1, ρ, fl, ρ', h => by
    unfold whileN at h
    rw [Option.bind_eq_some_iff] at h
    obtain ⟨⟨b, ρ1⟩, h1, h⟩ := h
    have l1 := lg _ _ _ h1
    cases b with
    | false => rw [if_neg Bool.false_ne_true] at h; cases h; exact l1
    | true =>
      rw [if_pos rfl] at h
      rw [Option.bind_eq_some_iff] at h
      obtain ⟨⟨fb, ρ2⟩, h2, h⟩ := h
      have l : ρ2.length = ρ.length := (lf _ _ _ h2).trans l1
      cases fb with
      | nx => exact (whileN_len lg lf n _ _ _ h).trans l
      | ct => exact (whileN_len lg lf n _ _ _ h).trans l
      | bk => cases h; exact l
      | rt v => cases h; exact l
theorem sv_while (hp : PassesOwn (model X.prog X.w) X.A X.env X.xe) (hc : Tv X R c g) (hb : SSv X R pr body f) : Sv X R pr (.While c body [] pos) (sWhile g f) := by
  refine ⟨fun ρ r ρ' h => ?_, ps_mono (ps_while hp hc.pt hb.ps) fun D σ H h => ?_⟩
  · obtain ⟨n, h⟩ := sWhile_iff.mp h
    exact whileN_len hc.len hb.len n _ _ _ h
  · obtain ⟨e, F, ρ, tm, fl, ρ', hl, hB, hf, k⟩ := h
    obtain ⟨n, hf⟩ := sWhile_iff.mp hf
    refine ⟨fun m σ1 H1 => ∃ F1 ρ1, ρ1.length = σ1.length ∧ σ1.length = σ.length ∧ (∀ j ∈ pr, σ1[j]? = σ[j]?) ∧ Bag R e F1 H1 (ρ1.zip σ1 ++ tm) ∧ whileN g f m ρ1 = some (fl, ρ'), ⟨n, F, ρ, hl, rfl, fun _ _ => rfl, hB, hf⟩, ?_⟩
    rintro m σ1 H1 ⟨F1, ρ1, l1, l1', p1, B1, h1⟩
    cases m with
    | zero => cases h1
    | succ m =>
      unfold whileN at h1
      rw [Option.bind_eq_some_iff] at h1
      obtain ⟨⟨b, ρ2⟩, h2, h1⟩ := h1
      refine ⟨e, F1, ρ1, tm, b, ρ2, l1, B1, h2, fun H2 F2 B2 => ?_⟩
      have l2 := hc.len _ _ _ h2
      cases b with
      | false =>
        refine iteF ?_
        rw [if_neg Bool.false_ne_true] at h1
        cases h1
        exact k σ1 H2 F2 l1' p1 B2
      | true =>
        refine iteT ?_
        rw [if_pos rfl] at h1
        rw [Option.bind_eq_some_iff] at h1
        obtain ⟨⟨fb, ρ3⟩, h3, h1⟩ := h1
        have l3 := hb.len _ _ _ h3
        dsimp only at l3
        refine ⟨fun σ' H' => ∃ F1 ρ1, ρ1.length = σ'.length ∧ σ'.length = σ.length ∧ (∀ j ∈ pr, σ'[j]? = σ[j]?) ∧ Bag R e F1 H' (ρ1.zip σ' ++ tm) ∧ whileN g f m ρ1 = some (fl, ρ'), fun σ' H' hN => ⟨m, Nat.lt_succ_self _, hN⟩, ?_⟩
        refine ⟨e, F2, ρ2, tm, fb, ρ3, by omega, B2, h3, fun σ4 H4 F4 ls4 ks4 => ?_⟩
        have prk : ∀ j ∈ pr, σ4[j]? = σ[j]? := fun j hj => by rw [ks4 j hj, p1 j hj]
        cases fb with
        | nx => exact fun B5 => ⟨F4, ρ3, by omega, by omega, prk, B5, h1⟩
        | ct => exact fun B5 => ⟨F4, ρ3, by omega, by omega, prk, B5, h1⟩
        | bk => cases h1; exact fun B5 => k σ4 H4 F4 (by omega) prk B5
        | rt v => cases h1; exact fun x B5 => k σ4 H4 F4 (by omega) prk x B5
end

/-! ### list comprehensions -/
structure Tsv (X : Cx) (R : RE) (ifs : List Expr) (f : PT') : Prop where
  len : ∀ ρ r ρ', f ρ = some (r, ρ') → ρ'.length = ρ.length
  pts : PTs X ifs (TTv R f)
def tTrue : PT' := fun ρ => some (true, ρ)
section
variable {X : Cx} {R : RE} {c : Expr} {g : PT'} {ifs : List Expr}
theorem pts_mono {t t' : TT} (h : PTs X ifs t) (m : ∀ σ H Q, t' σ H Q → t σ H Q) : PTs X ifs t' := ⟨fun pins s σ H Q I q => h.run pins s σ H Q I (m σ H Q q)⟩
theorem tsv_nil : Tsv X R [] tTrue := ⟨fun ρ r ρ' h => by cases h; rfl, pts_mono pts_nil fun σ H Q h => by
  obtain ⟨e, F, ρ, tm, b, ρ', hl, hB, hf, k⟩ := h
  cases hf
  exact k H F hB⟩
theorem tsv_one (h : Tv X R c g) : Tsv X R [c] g := ⟨h.len, pts_one h.pt⟩
end
def wipeS (ρ : List Sl) : List Nat → List Sl
  | [] => ρ
  | v :: vs => (wipeS ρ vs).set v .un
theorem wipeS_len (ρ : List Sl) : ∀ vs : List Nat, (wipeS ρ vs).length = ρ.length
  | [] => rfl
  | v :: vs => by unfold wipeS; rw [List.length_set, wipeS_len ρ vs]
/-- the contents of the own names come back -/
def backS (ρ : List Sl) : List Nat → List Sl → List Sl
  | v :: vs, s :: ss => (backS ρ vs ss).set v s
  | _, _ => ρ
theorem backS_len (ρ : List Sl) : ∀ (vs : List Nat) (ss : List Sl), (backS ρ vs ss).length = ρ.length
  | [], _ => by unfold backS; rfl
  | v :: vs, [] => by unfold backS; rfl
  | v :: vs, s :: ss => by unfold backS; rw [List.length_set, backS_len ρ vs ss]
def keepS (ρ : List Sl) (vs : List Nat) : List Sl := vs.map fun v => (ρ[v]?).getD .un
def lcP (vs : List Nat) (g : PGF) (tt : PT') (fe : PF) : List PV → List Sl → Option (List PV × List Sl)
  | [], ρ => some ([], ρ)
  | p :: ps, ρ => (g p (wipeS ρ vs)).bind fun ρ1 => (tt ρ1).bind fun b => if b.1 = true then (fe b.2).bind fun x => (valOf x.1).bind fun q => (lcP vs g tt fe ps x.2).map fun r => (q :: r.1, r.2)
    else lcP vs g tt fe ps b.2
def eLc (w : PIF) (vs : List Nat) (g : PGF) (tt : PT') (fe : PF) : PF := fun ρ => (w ρ).bind fun x => (lcP vs g tt fe x.1 x.2.2).map fun r =>
  (.own r.1, putB x.2.1 (x.2.1.map tmpOf) (backS r.2 vs (keepS x.2.2 vs)))
section
variable {R : RE} {e : En} {F H : Hp} {B C : Bg}
/-- a content taken out of its place -/
theorem Bag.out {v : Nat} {s : Sl} {o : Option V} (h : Bag R e F H (B ++ C)) (g : B[v]? = some (s, o)) : Bag R e F H (B.set v (.un, none) ++ (s, o) :: C) := by
  have hv := (List.getElem?_eq_some_iff.mp g).1
  have eB : B = B.take v ++ (s, o) :: B.drop (v + 1) := by
    have h1 : B[v] = (s, o) := (List.getElem?_eq_some_iff.mp g).2
    rw [← h1, ← List.drop_eq_getElem_cons hv, List.take_append_drop]
  have eS : B.set v (.un, none) = B.take v ++ (.un, none) :: B.drop (v + 1) := by
    rw [List.set_eq_take_append_cons_drop, if_pos hv]
  have h1 : Bag R e F H (B ++ C ++ [(.un, none)]) := h.push_un
  refine h1.perm ?_
  rw [eS]
  have p1 : (B ++ C ++ [((Sl.un, none) : Sl × Option V)]).Perm ((B.take v ++ (s, o) :: B.drop (v + 1)) ++ C ++ [((Sl.un, none) : Sl × Option V)]) := by rw [← eB]
  refine p1.trans ?_
  have : ∀ (A D : Bg) (p q : Sl × Option V), ((A ++ p :: D) ++ C ++ [q]).Perm ((A ++ q :: D) ++ p :: C) := by
    intro A D p q
    simp only [List.append_assoc]
    refine (List.Perm.refl A).append ?_
    have e1 : (p :: D ++ (C ++ [q])).Perm (p :: (q :: (D ++ C))) := by
      rw [List.cons_append, ← List.append_assoc]
      exact (List.perm_append_singleton q (D ++ C)).cons p
    have e2 : (q :: D ++ p :: C).Perm (q :: (p :: (D ++ C))) := by
      rw [List.cons_append]
      exact List.perm_middle.cons q
    exact e1.trans ((List.Perm.swap q p _).trans e2.symm)
  exact this _ _ _ _
theorem wipeS_out {ρ : List Sl} {v : Nat} : ∀ {vs : List Nat}, v ∉ vs → (wipeS ρ vs)[v]? = ρ[v]?
  | [], _ => rfl
  | u :: vs, h => by
    unfold wipeS
    rw [List.getElem?_set_ne fun z => h (by rw [z]; exact List.mem_cons_self), wipeS_out fun z => h (List.mem_cons_of_mem _ z)]
/-- the own names' contents are laid aside -/
theorem Bag.aside {ρ : List Sl} {σ : L2.St} : ∀ {vs : List Nat}, vs.Nodup → ρ.length = σ.length → Bag R e F H (ρ.zip σ ++ C) → Bag R e F H ((wipeS ρ vs).zip (wipe σ vs) ++ ((keepS ρ vs).zip (vs.map fun v => (σ[v]?).getD none) ++ C))
  | [], _, _, h => h
  | v :: vs, nd, hl, h => by
    rw [List.nodup_cons] at nd
    have h1 := Bag.aside (vs := vs) nd.2 hl h
    have el : (wipeS ρ vs).length = (wipe σ vs).length := by rw [wipeS_len, wipe_length]; exact hl
    show Bag R e F H (((wipeS ρ vs).set v .un).zip ((wipe σ vs).set v none) ++ (((ρ[v]?).getD .un :: keepS ρ vs).zip ((σ[v]?).getD none :: vs.map fun v => (σ[v]?).getD none) ++ C))
    rw [List.zip_cons_cons, List.cons_append, zip_set2 el]
    by_cases hv : v < ρ.length
    · have g1 : (wipeS ρ vs)[v]? = some ((ρ[v]?).getD .un) := by
        rw [wipeS_out nd.1, List.getElem?_eq_getElem hv]; rfl
      have g2 : (wipe σ vs)[v]? = some ((σ[v]?).getD none) := by
        rw [wipe_out nd.1, List.getElem?_eq_getElem (by omega)]; rfl
      exact h1.out (zip_get g1 g2)
    · rw [List.set_eq_of_length_le (by rw [List.length_zip, wipeS_len, wipe_length]; omega), List.getElem?_eq_none (by omega)]
      have h2 : Bag R e F H ((wipeS ρ vs).zip (wipe σ vs) ++ ((keepS ρ vs).zip (vs.map fun v => (σ[v]?).getD none) ++ C) ++ [(.un, (σ[v]?).getD none)]) := h1.push_un
      refine h2.perm ?_
      rw [List.append_assoc]
      exact (List.Perm.refl _).append (List.perm_append_singleton _ _)
/-- .. and come back -/
theorem Bag.backs {ρ : List Sl} {σ : L2.St} : ∀ {vs : List Nat} {ss : List Sl}, vs.Nodup → ss.length = vs.length → ρ.length = σ.length → Bag R e F H (ρ.zip (wipe σ vs) ++ (ss.zip (vs.map fun v => (σ[v]?).getD none) ++ C)) → Bag R e F H ((backS ρ vs ss).zip σ ++ C)
  | [], [], _, _, _, h => h
  | [], _ :: _, _, l, _, _ => by cases l
  | v :: vs, [], _, l, _, _ => by cases l
  | v :: vs, s :: ss, nd, l, hl, h => by
    rw [List.nodup_cons] at nd
    have e1 : (s :: ss).zip ((v :: vs).map fun v => (σ[v]?).getD none) = (s, (σ[v]?).getD none) :: ss.zip (vs.map fun v => (σ[v]?).getD none) := rfl
    rw [e1, List.cons_append] at h
    have el : ρ.length = (wipe σ (v :: vs)).length := by rw [wipe_length]; exact hl
    -- slot v first: it is not among the others
    have h1 : Bag R e F H ((ρ.set v s).zip ((wipe σ (v :: vs)).set v ((σ[v]?).getD none)) ++ (ss.zip (vs.map fun v => (σ[v]?).getD none) ++ C)) := by
      have h0 : Bag R e F H (ρ.zip (wipe σ (v :: vs)) ++ [] ++ (s, (σ[v]?).getD none) :: (ss.zip (vs.map fun v => (σ[v]?).getD none) ++ C)) := by rw [List.append_nil]; exact h
      have := Bag.slot (i := v) h0 el
      rw [List.append_nil] at this
      exact this
    have e2 : (wipe σ (v :: vs)).set v ((σ[v]?).getD none) = wipe σ vs := by
      show ((wipe σ vs).set v none).set v _ = _
      rw [List.set_set]
      by_cases hv : v < σ.length
      · apply List.ext_getElem?
        intro j
        by_cases z : v = j
        · subst z
          rw [List.getElem?_set_self (by rw [wipe_length]; exact hv), wipe_out nd.1, List.getElem?_eq_getElem hv]; rfl
        · rw [List.getElem?_set_ne z]
      · rw [List.set_eq_of_length_le (by rw [wipe_length]; omega)]
    rw [e2] at h1
    have h2 := Bag.backs (ρ := ρ.set v s) (vs := vs) (ss := ss) nd.2 (by simpa using l) (by rw [List.length_set]; exact hl) h1
    have e3 : backS (ρ.set v s) vs ss = (backS ρ vs ss).set v s := by
      clear h2 h1 h e1
      have : ∀ (vs : List Nat) (ss : List Sl) (ρ : List Sl), v ∉ vs → backS (ρ.set v s) vs ss = (backS ρ vs ss).set v s := by
        intro vs
        induction vs with
        | nil => intro ss ρ _; unfold backS; rfl
        | cons u vs ih =>
          intro ss ρ hu
          cases ss with
          | nil => unfold backS; rfl
          | cons t ss =>
            unfold backS
            rw [ih ss ρ fun z => hu (List.mem_cons_of_mem _ z), List.set_comm _ _ fun z => hu (by rw [z]; exact List.mem_cons_self)]
      exact this vs ss ρ nd.1
    rw [e3] at h2
    unfold backS
    exact h2
/-- the block's slots for the next turn -/
theorem Bag.again {ρ : List Sl} {σ σ2 : L2.St} {vs : List Nat} (h : Bag R e F H (ρ.zip σ2 ++ C)) (hl : ρ.length = σ2.length) (hw : wipe σ2 vs = wipe σ vs) : Bag R e F H ((wipeS ρ vs).zip (wipe σ vs) ++ C) := by
  rw [← hw]
  clear hw
  induction vs with
  | nil => exact h
  | cons v vs ih =>
    have el : (wipeS ρ vs).length = (wipe σ2 vs).length := by rw [wipeS_len, wipe_length]; exact hl
    show Bag R e F H (((wipeS ρ vs).set v .un).zip ((wipe σ2 vs).set v none) ++ C)
    rw [zip_set2 el]
    refine ih.repl fun i p q => ?_
    by_cases hv : v < ((wipeS ρ vs).zip (wipe σ2 vs)).length
    · rw [← List.set_append_left _ _ hv] at q
      by_cases z : v = i
      · subst z
        rw [List.getElem?_set_self (by rw [List.length_append]; omega)] at q
        cases q
        exact .inr ⟨rfl, trivial⟩
      · rw [List.getElem?_set_ne z] at q
        exact .inl q
    · rw [List.set_eq_of_length_le (by omega)] at q
      exact .inl q
end
theorem wipe_same {σ σ2 : L2.St} {vs ws : List Nat} (l : σ2.length = σ.length) (h : ∀ j, j ∉ ws → σ2[j]? = (wipe σ vs)[j]?) (hs : ∀ j ∈ ws, j ∈ vs) : wipe σ2 vs = wipe σ vs := by
  have inn : ∀ {σ : L2.St} {vs : List Nat} {j : Nat}, j ∈ vs → j < σ.length → (wipe σ vs)[j]? = some none := by
    intro σ vs
    induction vs with
    | nil => intro j h; cases h
    | cons v vs ih =>
      intro j hj hl
      unfold wipe
      by_cases z : v = j
      · subst z
        rw [List.getElem?_set_self (by rw [wipe_length]; exact hl)]
      · rw [List.getElem?_set_ne z]
        rcases List.mem_cons.mp hj with y | y
        · exact absurd y.symm z
        · exact ih y hl
  apply List.ext_getElem?
  intro j
  by_cases hj : j ∈ vs
  · by_cases hl : j < σ.length
    · rw [inn hj hl, inn hj (by omega)]
    · rw [List.getElem?_eq_none (by rw [wipe_length]; omega), List.getElem?_eq_none (by rw [wipe_length]; omega)]
  · rw [wipe_out hj, h j fun z => hj (hs j z)]
section
variable {X : Cx} {R : RE} {tg iter elt : Expr} {ifs : List Expr} {w : PIF} {vs ws : List Nat} {g : PGF} {tt : PT'} {fe : PF} {pos : Pos} {scope : Scope} {own : List (Str × Nat)}
theorem lcP_len (lg : ∀ p ρ ρ', g p ρ = some ρ' → ρ'.length = ρ.length) (lt : ∀ ρ r ρ', tt ρ = some (r, ρ') → ρ'.length = ρ.length) (le : ∀ ρ r ρ', fe ρ = some (r, ρ') → ρ'.length = ρ.length) : ∀ (items : List PV) (ρ : List Sl) (zs : List PV) (ρ' : List Sl), lcP vs g tt fe items ρ = some (zs, ρ') → ρ'.length = ρ.length ∧ zs.length ≤ items.length
  | [], ρ, zs, ρ', h => by cases h; exact ⟨rfl, Nat.le_refl _⟩
  | p :: ps, ρ, zs, ρ', h => by
    unfold lcP at h
    rw [Option.bind_eq_some_iff] at h
    obtain ⟨ρ1, h1, h⟩ := h
    rw [Option.bind_eq_some_iff] at h
    obtain ⟨⟨b, ρ2⟩, h2, h⟩ := h
    have l1 := (lt _ _ _ h2).trans ((lg _ _ _ h1).trans (wipeS_len _ _))
    cases b with
    | false =>
      rw [if_neg Bool.false_ne_true] at h
      have := lcP_len lg lt le ps _ _ _ h
      exact ⟨this.1.trans l1, by rw [List.length_cons]; omega⟩
    | true =>
      rw [if_pos rfl] at h
      rw [Option.bind_eq_some_iff] at h
      obtain ⟨⟨r, ρ3⟩, h3, h⟩ := h
      rw [Option.bind_eq_some_iff] at h
      obtain ⟨q, _, h⟩ := h
      rw [Option.map_eq_some_iff] at h
      obtain ⟨⟨zs', ρ4⟩, h5, h⟩ := h
      cases h
      have h6 := lcP_len lg lt le ps _ _ _ h5
      have l3 := le _ _ _ h3
      dsimp only at h6 l3
      refine ⟨h6.1.trans (l3.trans l1), ?_⟩
      show (q :: zs').length ≤ (p :: ps).length
      rw [List.length_cons, List.length_cons]
      have := h6.2
      omega
theorem eLc_some {ρ ρ' : List Sl} {r : Sl} (h : eLc w vs g tt fe ρ = some (r, ρ')) : ∃ items rs ρ1 zs ρ2, w ρ = some (items, rs, ρ1) ∧ lcP vs g tt fe items ρ1 = some (zs, ρ2) ∧ r = .own zs ∧ ρ' = putB rs (rs.map tmpOf) (backS ρ2 vs (keepS ρ1 vs)) := by
  unfold eLc at h
  rw [Option.bind_eq_some_iff] at h
  obtain ⟨⟨items, rs, ρ1⟩, h1, h⟩ := h
  rw [Option.map_eq_some_iff] at h
  obtain ⟨⟨zs, ρ2⟩, h2, h⟩ := h
  cases h
  exact ⟨items, rs, ρ1, zs, ρ2, h1, h2, rfl, rfl⟩
theorem eLc_len (lw : ∀ ρ a b ρ', w ρ = some (a, b, ρ') → ρ'.length = ρ.length) (lg : ∀ p ρ ρ', g p ρ = some ρ' → ρ'.length = ρ.length) (lt : ∀ ρ r ρ', tt ρ = some (r, ρ') → ρ'.length = ρ.length) (le : ∀ ρ r ρ', fe ρ = some (r, ρ') → ρ'.length = ρ.length) :
    ∀ ρ r ρ', eLc w vs g tt fe ρ = some (r, ρ') → ρ'.length = ρ.length := fun ρ r ρ' h => by
  obtain ⟨items, rs, ρ1, zs, ρ2, h1, h2, _, rfl⟩ := eLc_some h
  rw [putB_len, backS_len, (lcP_len lg lt le _ _ _ _ h2).1]
  exact lw _ _ _ _ h1
/-- the reading of a comprehension -/
theorem tLc_of (nd : vs.Nodup) (hws : ∀ j ∈ ws, j ∈ vs) (lw : ∀ ρ a b ρ', w ρ = some (a, b, ρ') → ρ'.length = ρ.length) (lg : ∀ p ρ ρ', g p ρ = some ρ' → ρ'.length = ρ.length) (lt : ∀ ρ r ρ', tt ρ = some (r, ρ') → ρ'.length = ρ.length) (le : ∀ ρ r ρ', fe ρ = some (r, ρ') → ρ'.length = ρ.length)
    (σ : L2.St) (H : Hp) (Q : VK) (h : TEv R (eLc w vs g tt fe) σ H Q) : tLc (TIv R w) (TGv R ws g) (TTv R tt) (TEv R fe) vs σ H Q := by
  obtain ⟨e, F, ρ, tm, r, ρ', hl, hB, hf, k⟩ := h
  obtain ⟨items, rs, ρ1, zs, ρ2, h1, h2, rfl, rfl⟩ := eLc_some hf
  have l1 := lw _ _ _ _ h1
  refine ⟨e, F, ρ, tm, items, rs, ρ1, hl, hB, h1, fun J H1 F1 xs B1 k1 wk hz D nD => ?_⟩
  generalize htI : (rs.map tmpOf).zip (xs.map some) = tI at B1 wk
  generalize hsv : (keepS ρ1 vs).zip (vs.map fun v => (σ[v]?).getD none) = sv
  have l1' : ρ1.length = σ.length := by omega
  have hlz := lcP_len lg lt le _ _ _ _ h2
  -- the first state
  have B2 : Bag R e F1 (upd H1 D (.lst [])) ((wipeS ρ1 vs).zip (wipe σ vs) ++ (sv ++ tm ++ [(.own [], some (.ref D))]) ++ tI) := by
    have b1 := Bag.aside (vs := vs) nd l1' (by rw [List.append_assoc] at B1; exact B1)
    rw [hsv] at b1
    have b2 := b1.new_lst (p := D) nD (xs := []) (vs := []) .nil
    refine b2.perm ?_
    simp only [List.append_assoc]
    refine (List.Perm.refl _).append ((List.Perm.refl _).append ((List.Perm.refl _).append ?_))
    exact (List.perm_append_singleton _ _)
  refine ⟨fun i m H2 => m = items.length - i ∧ i ≤ items.length ∧ ∃ F2 ρ3 acc zs2, ρ3.length = σ.length ∧ Bag R e F2 H2 ((wipeS ρ3 vs).zip (wipe σ vs) ++ (sv ++ tm ++ [(.own acc, some (.ref D))]) ++ tI) ∧ lcP vs g tt fe (items.drop i) ρ3 = some (zs2, ρ2) ∧ acc ++ zs2 = zs ∧ acc.length ≤ i,
    ⟨_, rfl, Nat.zero_le _, F1, ρ1, [], zs, l1', B2, by simpa using h2, rfl, Nat.zero_le _⟩, ?_⟩
  rintro i m H2 ⟨rfl, hi, F2, ρ3, acc, zs2, l3, B3, h3, ez, hac⟩
  obtain ⟨wgo, wstop⟩ := wk e F2 H2 _ i B3
  by_cases hlt : i < items.length
  · obtain ⟨go, yl⟩ := wgo hlt
    have ed : items.drop i = items[i] :: items.drop (i + 1) := by rw [List.drop_eq_getElem_cons hlt]
    rw [ed] at h3
    unfold lcP at h3
    rw [Option.bind_eq_some_iff] at h3
    obtain ⟨ρ4, g4, h3⟩ := h3
    rw [Option.bind_eq_some_iff] at h3
    obtain ⟨⟨b, ρ5⟩, g5, h3⟩ := h3
    refine .inr ⟨go, fun H' => ∃ F2 ρ3 acc zs2, ρ3.length = σ.length ∧ Bag R e F2 H' ((wipeS ρ3 vs).zip (wipe σ vs) ++ (sv ++ tm ++ [(.own acc, some (.ref D))]) ++ tI) ∧ lcP vs g tt fe (items.drop (i + 1)) ρ3 = some (zs2, ρ2) ∧ acc ++ zs2 = zs ∧ acc.length ≤ i + 1, fun H' hN => ⟨items.length - (i + 1), by omega, rfl, by omega, hN⟩, fun x H' y => ?_⟩
    obtain ⟨p, F3, ep, B4, rp⟩ := yl x H' y
    have ep' : p = items[i] := by rw [List.getElem?_eq_getElem hlt] at ep; cases ep; rfl
    subst ep'
    have lg4 := lg _ _ _ g4
    rw [wipeS_len] at lg4
    have lt5 := lt _ _ _ g5
    rw [List.append_assoc] at B4
    refine ⟨e, F3, wipeS ρ3 vs, _, _, ρ4, by rw [wipeS_len, wipe_length]; exact l3, B4, rp, g4, fun σ2 ls2 ks2 B5 => ?_⟩
    rw [wipe_length] at ls2
    have hw := wipe_same ls2 ks2 hws
    refine ⟨hw, e, F3, ρ4, _, b, ρ5, by omega, B5, g5, fun H5 F5 B6 => ?_⟩
    cases b with
    | false =>
      refine iteF ?_
      rw [if_neg Bool.false_ne_true] at h3
      refine ⟨F5, ρ5, acc, zs2, by omega, ?_, h3, ez, by omega⟩
      rw [List.append_assoc]
      exact B6.again (by omega) hw
    | true =>
      refine iteT ?_
      rw [if_pos rfl] at h3
      rw [Option.bind_eq_some_iff] at h3
      obtain ⟨⟨r6, ρ6⟩, g6, h3⟩ := h3
      rw [Option.bind_eq_some_iff] at h3
      obtain ⟨q, hq, h3⟩ := h3
      rw [Option.map_eq_some_iff] at h3
      obtain ⟨⟨zs3, ρ7⟩, h7, h3⟩ := h3
      cases h3
      have le6 : ρ6.length = ρ5.length := le _ _ _ g6
      refine ⟨e, F5, ρ5, _, r6, ρ6, by omega, B6, g6, fun y2 H6 F6 B7 _ => ?_⟩
      obtain ⟨F7, s7, B8, rq⟩ := B7.val hq
      -- the list at D
      have gD : (ρ6.zip σ2 ++ (sv ++ tm ++ [(Sl.own acc, some (V.ref D))] ++ tI))[(ρ6.zip σ2 ++ (sv ++ tm)).length]? = some (.own acc, some (.ref D)) := by
        have : ρ6.zip σ2 ++ (sv ++ tm ++ [(Sl.own acc, some (V.ref D))] ++ tI) = (ρ6.zip σ2 ++ (sv ++ tm)) ++ (Sl.own acc, some (V.ref D)) :: tI := by simp only [List.append_assoc, List.singleton_append]
        rw [this]; exact app_mid
      obtain ⟨a0, us, ea, hF, hH, hr⟩ := B8.all _ _ _ gD
      cases ea
      have hlu := hr.length
      refine ⟨us, hH, by omega, F7, ρ6, acc ++ [q], zs3, by omega, ?_, h7, by rw [← ez, List.append_assoc]; rfl, by rw [List.length_append]; simp; omega⟩
      have B9 := B8.write (t := .own (acc ++ [q])) (o := .lst (us ++ [y2])) gD rfl rfl ⟨D, _, rfl, hF, upd_same, hr.append (.one rq)⟩
      have eS : (ρ6.zip σ2 ++ (sv ++ tm ++ [(Sl.own acc, some (V.ref D))] ++ tI)).set (ρ6.zip σ2 ++ (sv ++ tm)).length (.own (acc ++ [q]), some (.ref D)) = ρ6.zip σ2 ++ (sv ++ tm ++ [(Sl.own (acc ++ [q]), some (V.ref D))] ++ tI) := by
        have e1 : ρ6.zip σ2 ++ (sv ++ tm ++ [(Sl.own acc, some (V.ref D))] ++ tI) = (ρ6.zip σ2 ++ (sv ++ tm)) ++ (Sl.own acc, some (V.ref D)) :: tI := by simp only [List.append_assoc, List.singleton_append]
        rw [e1, List.set_append_right _ _ (Nat.le_refl _), Nat.sub_self, List.set_cons_zero]
        simp only [List.append_assoc, List.singleton_append]
      rw [eS] at B9
      rw [List.append_assoc]
      exact B9.again (by omega) hw
  · have ei : i = items.length := by omega
    rw [ei, List.drop_length] at h3
    cases h3
    rw [List.append_nil] at ez
    subst ez
    refine .inl ⟨wstop ei, ?_⟩
    -- home
    have lk : (keepS ρ1 vs).length = vs.length := by unfold keepS; rw [List.length_map]
    have B4 : Bag R e F2 H2 ((wipeS ρ2 vs).zip (wipe σ vs) ++ ((keepS ρ1 vs).zip (vs.map fun v => (σ[v]?).getD none) ++ (tm ++ ((rs.map tmpOf).zip (xs.map some) ++ [(.own acc, some (.ref D))])))) := by
      rw [hsv, htI]
      refine B3.perm ?_
      simp only [List.append_assoc]
      refine (List.Perm.refl _).append ((List.Perm.refl _).append ((List.Perm.refl _).append ?_))
      exact (List.perm_append_comm)
    have B5 := Bag.backs (ρ := wipeS ρ2 vs) nd lk (by rw [wipeS_len]; exact l3) B4
    have eb : backS (wipeS ρ2 vs) vs (keepS ρ1 vs) = backS ρ2 vs (keepS ρ1 vs) := by
      have : ∀ (vs : List Nat) (ss : List Sl) (ρ : List Sl), ss.length = vs.length → vs.Nodup → backS (wipeS ρ vs) vs ss = backS ρ vs ss := by
        intro vs
        induction vs with
        | nil => intro ss ρ _ _; cases ss <;> (unfold backS wipeS; rfl)
        | cons v vs ih =>
          intro ss ρ hl nd
          cases ss with
          | nil => cases hl
          | cons s ss =>
            rw [List.nodup_cons] at nd
            unfold backS
            have e1 : backS (wipeS ρ (v :: vs)) vs ss = (backS (wipeS ρ vs) vs ss).set v .un := by
              show backS ((wipeS ρ vs).set v .un) vs ss = _
              have : ∀ (vs : List Nat) (ss : List Sl) (ρ : List Sl), v ∉ vs → backS (ρ.set v .un) vs ss = (backS ρ vs ss).set v .un := by
                intro vs
                induction vs with
                | nil => intro ss ρ _; unfold backS; rfl
                | cons u vs ih =>
                  intro ss ρ hu
                  cases ss with
                  | nil => unfold backS; rfl
                  | cons t ss =>
                    unfold backS
                    rw [ih ss ρ fun z => hu (List.mem_cons_of_mem _ z), List.set_comm _ _ fun z => hu (by rw [z]; exact List.mem_cons_self)]
              exact this vs ss _ nd.1
            rw [e1, List.set_set, ih ss ρ (by simpa using hl) nd.2]
      exact this vs _ _ lk nd
    rw [eb] at B5
    rw [← List.append_assoc] at B5
    have B6 := Bag.home (as := rs) (ss := rs.map tmpOf) (C := [(.own acc, some (.ref D))]) (by rw [List.length_map]) (by rw [backS_len]; exact l3) k1 B5
    exact k _ H2 F2 B6 pk_own
theorem ev_lc (hc : X.calm = true) (hN : X.N.Nodup) (hw : Iv X R tg iter w) (ok : BlkOk X.N X.env.scope scope own) (nd : (own.map (·.2)).Nodup) (hws : ∀ j ∈ ws, j ∈ own.map (·.2))
    (hg : ∀ (s : Shared) (H : Hp) (C : Addr) (cl : List (Str × Addr)) (fp : List Addr), Gv (X.blk s H scope (compEnvC scope cl C X.env) fp) R tg ws g) (ht : ∀ (s : Shared) (H : Hp) (C : Addr) (cl : List (Str × Addr)) (fp : List Addr), Tsv (X.blk s H scope (compEnvC scope cl C X.env) fp) R ifs tt)
    (he : ∀ (s : Shared) (H : Hp) (C : Addr) (cl : List (Str × Addr)) (fp : List Addr), Ev (X.blk s H scope (compEnvC scope cl C X.env) fp) R elt fe) (hs : ∀ x, foldedSetIterable iter X.env x = pure x := by intro _; rfl)
    (s0 : Shared) (H0 : Hp) : Ev X R (.ListComp elt [⟨tg, iter, ifs, 0⟩] scope pos) (eLc w (own.map (·.2)) g tt fe) :=
  ⟨eLc_len hw.len (hg s0 H0 0 [] []).len (ht s0 H0 0 [] []).len (he s0 H0 0 [] []).len, pe_mono (pe_lc hc hN hw.pi ok (fun s H C cl fp => (hg s H C cl fp).pg) (fun s H C cl fp => (ht s H C cl fp).pts) (fun s H C cl fp => (he s H C cl fp).pe) hs)
    (tLc_of nd hws hw.len (hg s0 H0 0 [] []).len (ht s0 H0 0 [] []).len (he s0 H0 0 [] []).len)⟩
/-- name = [..] on one line -/
theorem sv_setLc {pr : List Nat} {i : Nat} {y : Str} {py spos : Pos} (hc : X.calm = true) (hN : X.N.Nodup) (hy : X.N[i]? = some y) (hyl : X.env.scope.names.lookup y = some .local) (hp : i ∉ pr)
    (hsw : swapsWith (.ListComp elt [⟨tg, iter, ifs, 0⟩] scope pos) (some (.Name y py)) spos.line X.env = pure true) (hw : Iv X R tg iter w) (ok : BlkOk X.N X.env.scope scope own) (nd : (own.map (·.2)).Nodup) (hws : ∀ j ∈ ws, j ∈ own.map (·.2))
    (hg : ∀ (s : Shared) (H : Hp) (C : Addr) (cl : List (Str × Addr)) (fp : List Addr), Gv (X.blk s H scope (compEnvC scope cl C X.env) fp) R tg ws g) (ht : ∀ (s : Shared) (H : Hp) (C : Addr) (cl : List (Str × Addr)) (fp : List Addr), Tsv (X.blk s H scope (compEnvC scope cl C X.env) fp) R ifs tt)
    (he : ∀ (s : Shared) (H : Hp) (C : Addr) (cl : List (Str × Addr)) (fp : List Addr), Ev (X.blk s H scope (compEnvC scope cl C X.env) fp) R elt fe) (hs : ∀ x, foldedSetIterable iter X.env x = pure x := by intro _; rfl)
    (s0 : Shared) (H0 : Hp) : Sv X R pr (.Assign [.Name y py] (.ListComp elt [⟨tg, iter, ifs, 0⟩] scope pos) spos) (sSet i (eLc w (own.map (·.2)) g tt fe)) := by
  have le := eLc_len (vs := own.map (·.2)) hw.len (hg s0 H0 0 [] []).len (ht s0 H0 0 [] []).len (he s0 H0 0 [] []).len
  refine ⟨sSet_len le, ps_mono (ps_setLc hc hN hy hyl hsw hw.pi ok (fun s H C cl fp => (hg s H C cl fp).pg) (fun s H C cl fp => (ht s H C cl fp).pts) (fun s H C cl fp => (he s H C cl fp).pe) hs) fun D σ H q => ?_⟩
  exact tLc_of nd hws hw.len (hg s0 H0 0 [] []).len (ht s0 H0 0 [] []).len (he s0 H0 0 [] []).len σ H _ (tSet_of hp le q)
end
end PL
set_option Elab.async false
set_option linter.all false
set_option maxRecDepth 100000
set_option maxHeartbeats 4000000
/-! PLj: what is walked: lists, tuples, ranges, zip, enumerate. -/
namespace PL
open PySem PySem.Spec PyProof.Rows L2

theorem pi_mono {X : Cx} {tg e : Expr} {t t' : TI} (h : PI X tg e t) (m : ∀ σ H Q, t' σ H Q → t σ H Q) : PI X tg e t' := ⟨fun pins s σ H Q I q => h.run pins s σ H Q I (m σ H Q q)⟩

/-! ### a list or a tuple -/
def seqOf : Sl → Option (List PV)
  | .fz (.lst xs) => some xs
  | .fz (.tup xs) => some xs
  | .fz (.scr xs) => some xs
  | .own xs => some xs
  | _ => none
def iSeq (f : PF) : PIF := fun ρ => (f ρ).bind fun x => (seqOf (tmpOf x.1)).map fun items => (items, [x.1], x.2)
def rSeq (K : PySem.W.Frag) (te : TE) : TI := fun σ H Rr => te σ H fun x H1 => (∃ a vs, x = .ref a ∧ SqL K H1 a vs ∧ (vs.length ≤ sizeLine → Rr (Itl K a) H1)) ∨ (∃ a vs, x = .ref a ∧ SqT K H1 a vs ∧ (vs.length ≤ sizeLine → Rr (Itt K a) H1))
theorem pi_seq {X : Cx} {tg l : Expr} {tl : TE} (hl : PE X l tl) : PI X tg l (rSeq X.K tl) := by
  refine ⟨fun pins s σ H R I h => ?_⟩
  refine thn (hl.run pins s σ H _ I h) fun v s1 ⟨x, H1, I1, r1, q1⟩ => ?_
  rcases q1 with ⟨a, vs, e, hq, q⟩ | ⟨a, vs, e, hq, q⟩
  · subst e
    cases r1
    obtain ⟨its, rv, p, hz⟩ := I1.list hq
    refine wpAny_pyIter_list p.isList ?_
    refine ⟨s1.heap.objs.size, [s1.heap.objs.size], _, _, H1, rfl, I1.kept (t' := s1.toks) fun b o e => Heap.get?_push_of_some _ e, turn_list a _, ⟨_, Heap.get?_push_size _ rfl, rfl, rfl⟩, fun b hb => ?_, q hz⟩
    have e : b = s1.heap.objs.size := by simpa using hb
    subst e
    exact I1.fpOk (Nat.le_refl _) (I1.hok.fresh (Nat.le_refl _))
  · subst e
    cases r1
    obtain ⟨its, rv, p, hz⟩ := I1.tuple hq
    refine wpAny_pyIter_tuple (show s1.heap.IsTuple a its.toArray from p) ?_
    refine ⟨s1.heap.objs.size, [s1.heap.objs.size], _, _, H1, rfl, I1.kept (t' := s1.toks) fun b o e => Heap.get?_push_of_some _ e, turn_tuple a _, ⟨_, Heap.get?_push_size _ rfl, rfl, rfl⟩, fun b hb => ?_, q hz⟩
    have e : b = s1.heap.objs.size := by simpa using hb
    subst e
    exact I1.fpOk (Nat.le_refl _) (I1.hok.fresh (Nat.le_refl _))

/-- sources: a list, a tuple -/
inductive Src where
  | l (a : Addr) | t (a : Addr)
def Src.ad : Src → Addr
  | .l a => a
  | .t a => a
def SqS (K : PySem.W.Frag) (H : Hp) : Src → List V → Prop
  | .l a, vs => SqL K H a vs
  | .t a, vs => SqT K H a vs
section
variable {R : RE} {e : En} {F H : Hp}
/-- whether a content is a tuple, or a list -/
def kindOk (src : Src) (s : Sl) : Prop := match src with
  | .l _ => ∀ xs, s ≠ .fz (.tup xs)
  | .t _ => ∃ xs, s = .fz (.tup xs)
/-- .. as it stands later: the same source -/
theorem src_now {s : Sl} {src : Src} {items : List PV} (k : kindOk src s) (q : seqOf s = some items) (h : SlR R F H s (some (.ref src.ad))) (sb : Sub F H) : ∃ vs, SqS R.K H src vs ∧ RpL R F items vs := by
  unfold seqOf at q
  split at q
  · cases q
    obtain ⟨y, ey, r⟩ := h
    cases ey
    cases src with
    | l a =>
      cases r with
      | lst q r => exact ⟨_, SqL.of (sb _ _ q), r⟩
    | t a => obtain ⟨xs, z⟩ := k; cases z
  · cases q
    obtain ⟨y, ey, r⟩ := h
    cases ey
    cases src with
    | l a => exact absurd rfl (k _)
    | t a =>
      cases r with
      | tup q r => exact ⟨_, sb.sqT q.sq, r⟩
  · cases q
    obtain ⟨y, ey, r⟩ := h
    cases ey
    cases src with
    | l a =>
      cases r with
      | scr q r => exact ⟨_, sb.sqL q, r⟩
    | t a => obtain ⟨xs, z⟩ := k; cases z
  · cases q
    obtain ⟨a, vs, ey, _, h2, r⟩ := h
    cases src with
    | l b => cases ey; exact ⟨vs, SqL.of h2, r⟩
    | t b => obtain ⟨xs, z⟩ := k; cases z
  · cases q
theorem src_of' {s : Sl} {x : V} {items : List PV} (h : SlR R F H s (some x)) (sb : Sub F H) (q : seqOf s = some items) : ∃ src, x = .ref src.ad ∧ kindOk src s := by
  unfold seqOf at q
  split at q
  · cases q
    obtain ⟨y, ey, r⟩ := h
    cases ey
    cases r with
    | @lst a _ vs q r => exact ⟨.l a, rfl, fun xs z => by cases z⟩
  · cases q
    obtain ⟨y, ey, r⟩ := h
    cases ey
    cases r with
    | @tup a _ vs q r => exact ⟨.t a, rfl, _, rfl⟩
  · cases q
    obtain ⟨y, ey, r⟩ := h
    cases ey
    cases r with
    | @scr a _ vs q r => exact ⟨.l a, rfl, fun xs z => by cases z⟩
  · cases q
    obtain ⟨a, vs, ey, _, h2, r⟩ := h
    cases ey
    exact ⟨.l a, rfl, fun xs z => by cases z⟩
  · cases q
end
section
variable {X : Cx} {R : RE} {tg l : Expr} {fa fb fc : PF}
theorem iSeq_some {ρ ρ' : List Sl} {items : List PV} {rs : List Sl} (q : iSeq fa ρ = some (items, rs, ρ')) : ∃ r, fa ρ = some (r, ρ') ∧ seqOf (tmpOf r) = some items ∧ rs = [r] := by
  unfold iSeq at q
  rw [Option.bind_eq_some_iff] at q
  obtain ⟨⟨r, ρ1⟩, h1, q⟩ := q
  rw [Option.map_eq_some_iff] at q
  obtain ⟨its, h2, q⟩ := q
  cases q
  exact ⟨r, h1, h2, rfl⟩
theorem iv_seq (hK : R.K = X.K) (h : Ev X R l fa) : Iv X R tg l (iSeq fa) := by
  refine ⟨fun ρ a b ρ' q => ?_, pi_mono (pi_seq h.pe) fun σ H Q q => ?_⟩
  · obtain ⟨r, h1, _⟩ := iSeq_some q
    exact h.len _ _ _ h1
  · obtain ⟨e, F, ρ, tm, items, rs, ρ', hl, hB, hf, k⟩ := q
    obtain ⟨r, h1, h2, rfl⟩ := iSeq_some hf
    refine ⟨e, F, ρ, tm, r, ρ', hl, hB, h1, fun x H1 F1 B1 k1 => ?_⟩
    have hx := B1.all _ _ _ app_last
    obtain ⟨src, ex, kd⟩ := src_of' hx B1.sub h2
    subst ex
    obtain ⟨vs, hq, hr⟩ := src_now kd h2 hx B1.sub
    have key : ∀ J, (∀ (e' : En) (F' H' : Hp) (B : Bg) (i : Nat) (ws : List V), Bag R e' F' H' (B ++ [(tmpOf r, some (.ref src.ad))]) → SqS R.K H' src ws → RpL R F' items ws → (i < items.length → J.go i H' ∧ ∀ x H2, J.yld i H' x H2 → H2 = H' ∧ ws[i]? = some x) ∧ (i = items.length → J.stop i H')) → vs.length ≤ sizeLine → Q J H1 := by
      intro J hJ hz
      refine k J H1 F1 [.ref src.ad] B1 (.cons k1 .nil) (fun e' F' H' B i hB' => ?_) (by rw [hr.length]; exact hz)
      have hx' := hB'.all _ _ _ app_last
      obtain ⟨ws, hw, hrw⟩ := src_now kd h2 hx' hB'.sub
      obtain ⟨j1, j2⟩ := hJ e' F' H' B i ws hB' hw hrw
      refine ⟨fun hi => ⟨(j1 hi).1, fun x H2 y => ?_⟩, j2⟩
      obtain ⟨e1, e2⟩ := (j1 hi).2 x H2 y
      subst e1
      obtain ⟨p, hp, rp⟩ := hrw.get e2
      exact ⟨p, F', hp, hB', rp⟩
    cases src with
    | l a =>
      rw [hK] at hq
      refine .inl ⟨a, vs, rfl, hq, key _ fun e' F' H' B i ws hB' hw hrw => ?_⟩
      rw [hK] at hw
      exact ⟨fun hi => ⟨⟨ws, ws[i]'(by rw [← hrw.length]; exact hi), hw, by simp⟩, fun x H2 y => ⟨y.1, y.2 ws hw⟩⟩, fun hi => ⟨ws, hw, by rw [← hrw.length]; omega⟩⟩
    | t a =>
      rw [hK] at hq
      refine .inr ⟨a, vs, rfl, hq, key _ fun e' F' H' B i ws hB' hw hrw => ?_⟩
      rw [hK] at hw
      exact ⟨fun hi => ⟨⟨ws, ws[i]'(by rw [← hrw.length]; exact hi), hw, by simp⟩, fun x H2 y => ⟨y.1, y.2 ws hw⟩⟩, fun hi => ⟨ws, hw, by rw [← hrw.length]; omega⟩⟩
/-! ### ranges -/
def rangeP (lo : Int) (n : Nat) : List PV := (List.range n).map fun k => PV.int (lo + (k : Nat))
def iRange1 (f : PF) : PIF := fun ρ => (f ρ).bind fun x => match x.1 with
  | .fz (.int j) => if -lineN ≤ j ∧ j ≤ lineN then some (rangeP 0 j.toNat, [], x.2) else none
  | _ => none
def iRange2 (f g : PF) : PIF := fun ρ => (f ρ).bind fun x => (g x.2).bind fun y => match x.1, y.1 with
  | .fz (.int i), .fz (.int j) => if -(2 ^ 62) ≤ i ∧ j < 2 ^ 62 ∧ i < 2 ^ 62 ∧ -(2 ^ 62) ≤ j ∧ j - i ≤ lineN then some (rangeP i (j - i).toNat, [], y.2) else none
  | _, _ => none
theorem wk_range {lo : Int} {n : Nat} : WkOk R (Itr lo n) (rangeP lo n) [] := by
  intro e F H B i hB
  have ln : (rangeP lo n).length = n := by unfold rangeP; simp
  refine ⟨fun hi => ⟨by rw [ln] at hi; exact hi, fun x H' y => ?_⟩, fun hi => by rw [ln] at hi; exact Nat.le_of_eq hi.symm⟩
  obtain ⟨e1, e2⟩ := y
  subst e1 e2
  rw [ln] at hi
  refine ⟨.int (lo + i), F, ?_, hB, .int _⟩
  unfold rangeP
  rw [List.getElem?_map, List.getElem?_range hi]; rfl
theorem iv_range1 {a : Expr} {p pos : Pos} (hg : Gl X "range") (hm : X.mg "range" = none) (ha : Ev X R a fa) (hs : starEach [a] X.env = [(false, eval a X.env)] := by rfl) (hs3 : starEach [] X.env = [] := by rfl) : Iv X R tg (.Call (.Name "range" p) [a] [] pos) (iRange1 fa) := by
  have key : ∀ {ρ ρ' : List Sl} {items : List PV} {rs : List Sl}, iRange1 fa ρ = some (items, rs, ρ') → ∃ j, fa ρ = some (.fz (.int j), ρ') ∧ (-lineN ≤ j ∧ j ≤ lineN) ∧ items = rangeP 0 j.toNat ∧ rs = [] := by
    intro ρ ρ' items rs q
    unfold iRange1 at q
    rw [Option.bind_eq_some_iff] at q
    obtain ⟨⟨r, ρ1⟩, h1, q⟩ := q
    split at q
    · rename_i j e1
      dsimp only at e1
      subst e1
      split at q
      · cases q; exact ⟨j, h1, by assumption, rfl, rfl⟩
      · cases q
    · cases q
  refine ⟨fun ρ a b ρ' q => ?_, pi_mono (pi_range1 hg hm (pa_cons ha.pe pa_nil (by rw [hs]; exact congrArg _ hs3.symm)) hs) fun σ H Q q => ?_⟩
  · obtain ⟨j, h1, _⟩ := key q
    exact ha.len _ _ _ h1
  · obtain ⟨e, F, ρ, tm, items, rs, ρ', hl, hB, hf, k⟩ := q
    obtain ⟨j, h1, h2, rfl, rfl⟩ := key hf
    refine ⟨e, F, ρ, tm, _, ρ', hl, hB, h1, fun x H1 F1 B1 _ => ?_⟩
    have ex := (B1.rq_fz (x := x) (p := .int j) app_last).int
    subst ex
    have hL : (lineN : Int) = 16777216 := rfl
    have hz : (0 - (2:Int) ^ 62) = -4611686018427387904 := by decide
    refine ⟨j, rfl, by omega, by omega, ?_⟩
    refine k _ H1 F1 [] (by simpa using B1.pop) .nil (by simpa using wk_range) ?_
    unfold rangeP
    rw [List.length_map, List.length_range, ← lineN_eq]
    omega
theorem iv_range2 {a b : Expr} {p pos : Pos} (hg : Gl X "range") (hm : X.mg "range" = none) (ha : Ev X R a fa) (hb : Ev X R b fb) (hs : starEach [a, b] X.env = [(false, eval a X.env), (false, eval b X.env)] := by rfl) (hs2 : starEach [b] X.env = [(false, eval b X.env)] := by rfl) (hs3 : starEach [] X.env = [] := by rfl) : Iv X R tg (.Call (.Name "range" p) [a, b] [] pos) (iRange2 fa fb) := by
  have key : ∀ {ρ ρ' : List Sl} {items : List PV} {rs : List Sl}, iRange2 fa fb ρ = some (items, rs, ρ') → ∃ i j ρ1, fa ρ = some (.fz (.int i), ρ1) ∧ fb ρ1 = some (.fz (.int j), ρ') ∧ (-(2 ^ 62) ≤ i ∧ j < 2 ^ 62 ∧ i < 2 ^ 62 ∧ -(2 ^ 62) ≤ j ∧ j - i ≤ lineN) ∧ items = rangeP i (j - i).toNat ∧ rs = [] := by
    intro ρ ρ' items rs q
    unfold iRange2 at q
    rw [Option.bind_eq_some_iff] at q
    obtain ⟨⟨r, ρ1⟩, h1, q⟩ := q
    rw [Option.bind_eq_some_iff] at q
    obtain ⟨⟨r2, ρ2⟩, h2, q⟩ := q
    split at q
    · rename_i i j e1 e2
      dsimp only at e1 e2
      subst e1 e2
      split at q
      · cases q; exact ⟨i, j, ρ1, h1, h2, by assumption, rfl, rfl⟩
      · cases q
    · cases q
  refine ⟨fun ρ a b ρ' q => ?_, pi_mono (pi_range2 hg hm (pa_cons ha.pe (pa_cons hb.pe pa_nil (by rw [hs2, hs3])) (by rw [hs, hs2])) hs hs2) fun σ H Q q => ?_⟩
  · obtain ⟨i, j, ρ1, h1, h2, _⟩ := key q
    exact (hb.len _ _ _ h2).trans (ha.len _ _ _ h1)
  · obtain ⟨e, F, ρ, tm, items, rs, ρ', hl, hB, hf, k⟩ := q
    obtain ⟨i, j, ρ1, h1, h2, h3, rfl, rfl⟩ := key hf
    have l1 := ha.len _ _ _ h1
    refine ⟨e, F, ρ, tm, _, ρ1, hl, hB, h1, fun x H1 F1 B1 _ => ?_⟩
    have ex := (B1.rq_fz (x := x) (p := .int i) app_last).int
    subst ex
    refine ⟨e, F1, ρ1, tm, _, ρ', by omega, B1.pop, h2, fun y H2 F2 B2 _ => ?_⟩
    have ey := (B2.rq_fz (x := y) (p := .int j) app_last).int
    subst ey
    have hL : (lineN : Int) = 16777216 := rfl
    refine ⟨i, j, rfl, ⟨h3.1, h3.2.2.1, h3.2.2.2.1, h3.2.1⟩, ?_⟩
    refine k _ H2 F2 [] (by simpa using B2.pop) .nil (by simpa using wk_range) ?_
    unfold rangeP
    rw [List.length_map, List.length_range, ← lineN_eq]
    omega
end
end PL
set_option Elab.async false
set_option linter.all false
set_option maxRecDepth 100000
set_option maxHeartbeats 4000000
/-! PLk: zip of two and three, enumerate. -/
namespace PySem
open Sem (wp)
open AutoSeq1 (wpAny_loadPart')
set_option maxHeartbeats 4000000 in
theorem meets_enumerate_newB1 {v : Value} {o : Obj} {H : Heap → Prop} (B : Begins v o H) :
    Meets (Builtin.«enumerate.__new__» ⟨[.type "enumerate", v], []⟩) (fun _ R s => H s.heap ∧
      R (.ok (.ret (.ref (s.heap.push o).objs.size)))
        { s with heap := (s.heap.push o).push { cls := .type "enumerate", data := .fields #[.none, .bool false, .ref s.heap.objs.size, rawInt 0, .none, .none] } }) :=
  .of_wp fun prog w A R s h => by
    obtain ⟨hp, g, d, tk, os⟩ := s; obtain ⟨h1, h⟩ := h
    have hsub := sub_enumerate
    have q1 : ∀ {A : Around} {E : Value → Shared → Prop} {Q : Value → Shared → Prop}, Q (.ref hp.objs.size) ⟨hp.push o, g, d, tk, os⟩ → wpAny (model prog w) A (pyIter v) Q E ⟨hp, g, d, tk, os⟩ :=
      fun {A E Q} hq => B.iter prog w A E ⟨hp, g, d, tk, os⟩ Q h1 hq
    wp_walk using q1
    refine wpAny_stack_any fun st => wpAny_pure ?_
    split
    · rename_i c _ _ _ _ _
      cases (c == Value.type "enumerate")
      · wp_walk using q1
        exact ⟨_, rfl, h⟩
      · wp_walk using q1
        exact ⟨_, rfl, h⟩
    · wp_walk using q1
      exact ⟨_, rfl, h⟩
theorem enum_begins1 {prog : Program} {w : World} {A : Around} {E : Value → Shared → Prop} {s : Shared} {v : Value} {o : Obj} {H : Heap → Prop} {Q : Value → Shared → Prop} (B : Begins v o H) (h1 : H s.heap)
    (h : ∀ h', IsEnum h' (s.heap.objs.size + 1) s.heap.objs.size 0 .none → h'.get? s.heap.objs.size = some o → h'.objs.size = s.heap.objs.size + 2 →
      (∀ b o, s.heap.get? b = some o → h'.get? b = some o) → Q (.ref (s.heap.objs.size + 1)) { s with heap := h' }) :
    wpAny (model prog w) A (call (.type "enumerate") [v]) Q E s := by
  refine callType_new F.called_enumerate (by decide) (F.typeCall_enumerate_1 _) (F.newCall_enumerate_1 _) (fun obj => F.args_object_init_2 obj _) F.entry_enumerate_new
    (meets_enumerate_newB1 B) ⟨h1, ?_⟩
  have hz : (s.heap.push o).objs.size = s.heap.objs.size + 1 := Heap.size_push ..
  show _ ∧ _
  rw [hz]
  have he : IsEnum ((s.heap.push o).push { cls := .type "enumerate", data := .fields #[.none, .bool false, .ref s.heap.objs.size, rawInt 0, .none, .none] }) (s.heap.objs.size + 1) s.heap.objs.size 0 .none := by
    have := Heap.get?_push_size (s.heap.push o) (o := { cls := .type "enumerate", data := .fields #[.none, .bool false, .ref s.heap.objs.size, rawInt 0, .none, .none] }) rfl
    rw [hz] at this
    exact this
  refine ⟨⟨_, he, rfl⟩, h _ he (Heap.get?_push_of_some _ (Heap.get?_push_size _ B.free)) (by rw [Heap.size_push, hz]) fun b o x => Heap.get?_push_of_some _ (Heap.get?_push_of_some _ x)⟩
end PySem
namespace PL
open PySem PySem.Spec PyProof.Rows L2

def itS (h : Heap) (it : Addr) (s : Src) (i : Nat) : Prop := match s with
  | .l a => h.IsListIter it a i
  | .t a => h.IsTupleIter it a i
def arS (h : Heap) (s : Src) (its : Array Value) : Prop := match s with
  | .l a => h.IsList a its
  | .t a => h.IsTuple a its
def obS (s : Src) : Obj := match s with
  | .l a => { cls := .type "list_iterator", data := .fields #[.ref a, .int 0 0] }
  | .t a => { cls := .type "tuple_iterator", data := .fields #[.ref a, .int 0 0] }
theorem begS (s : Src) (its : Array Value) : Begins (.ref s.ad) (obS s) fun h => arS h s its := by
  cases s with
  | l a => exact begins_list a its
  | t a => exact begins_tuple a its
theorem drawS {prog : Program} {w : World} {A : Around} (hh : A.handled = none) (it : Addr) (s : Src) (hne : s.ad ≠ it) (its : Array Value) : Draws prog w A it [it, s.ad] its.size (fun i v => its[i]? = some v) (fun i h => itS h it s i ∧ arS h s its) := by
  cases s with
  | l a => exact Draws.list hh it a hne its
  | t a => exact Draws.tuple hh it a hne its
theorem itS_new {h : Heap} {it : Addr} {s : Src} (e : h.get? it = some (obS s)) : itS h it s 0 := by
  cases s with
  | l a => exact ⟨_, e, rfl, rfl⟩
  | t a => exact ⟨_, e, rfl, rfl⟩
theorem itS_obj {h : Heap} {it : Addr} {s : Src} {i : Nat} (e : itS h it s i) : ∃ o, h.get? it = some o ∧ ∀ v, o.data ≠ .cell v := by
  cases s with
  | l a => obtain ⟨o, e, c, d⟩ := e; exact ⟨o, e, fun v z => by rw [d] at z; cases z⟩
  | t a => obtain ⟨o, e, c, d⟩ := e; exact ⟨o, e, fun v z => by rw [d] at z; cases z⟩
theorem itS_at {h h' : Heap} {it : Addr} {s : Src} {i : Nat} (e : itS h it s i) (k : ∀ o, h.get? it = some o → h'.get? it = some o) : itS h' it s i := by
  cases s with
  | l a => obtain ⟨o, e, c, d⟩ := e; exact ⟨o, k o e, c, d⟩
  | t a => obtain ⟨o, e, c, d⟩ := e; exact ⟨o, k o e, c, d⟩
section
variable {X : Cx} {pins : List (Addr × Obj)} {σ : L2.St} {H : Hp} {s : Shared}
theorem Inv.src (I : Inv X pins σ H s) {src : Src} {vs : List V} (h : SqS X.K H src vs) : ∃ its : List Value, Vals vs its ∧ arS s.heap src its.toArray ∧ vs.length ≤ sizeLine ∧ src.ad < s.heap.objs.size := by
  cases src with
  | l a =>
    obtain ⟨its, r, p, z⟩ := I.list h
    exact ⟨its, r, p.isList, z, p.lt⟩
  | t a =>
    obtain ⟨its, r, p, z⟩ := I.tuple h
    exact ⟨its, r, p, z, p.lt⟩
theorem Inv.src_inj (I : Inv X pins σ H s) {src : Src} {vs ws : List V} (h : SqS X.K H src vs) (h' : SqS X.K H src ws) : vs = ws := by
  cases src with
  | l a => exact I.list_inj h h'
  | t a => exact I.tuple_inj h h'
end

/-- a walk of new tuples as a Turn: what is asked of each turn -/
theorem turn_gen {P : Program} {w : World} {K : PySem.W.Frag} {elts : List Expr} {kk : Nat} {tpos : Pos} {J : It} {fp wr : List Addr} {z : Addr} {tn : Nat → Heap → Prop}
    (mem : z ∈ fp) (sub : ∀ b ∈ wr, b ∈ fp)
    (obj : ∀ i h, tn i h → ∀ b ∈ fp, ∃ o, h.get? b = some o ∧ ∀ v, o.data ≠ .cell v)
    (keep : ∀ i h h', tn i h → (∀ b ∈ fp, ∀ o, h.get? b = some o → h'.get? b = some o) → tn i h')
    (item : ∀ (X : Cx), X.prog = P → X.w = w → X.K = K → X.calm = true → ∀ (i : Nat) (pins : List (Addr × Obj)) (s : Shared) (σ : L2.St) (H : Hp), Inv X pins σ H s → tn i s.heap → J.go i H →
      ∃ (fpW : List Addr) (n : Nat) (Pt : Nat → Array Value → Prop) (St : Nat → Heap → Prop) (Mid : Nat → Addr → Heap → Prop), WalksT P w X.A z fpW wr n Pt St Mid ∧ i < n ∧ St i s.heap ∧ (∀ h, St (i + 1) h → tn (i + 1) h) ∧
        ∀ vals, Pt i vals → ∃ xs, Vals xs vals.toList ∧ xs.length ≤ sizeLine ∧ ∀ T, H T = none → J.yld i H (.ref T) (upd H T (.tup xs)))
    (done : ∀ (X : Cx), X.prog = P → X.w = w → X.K = K → X.calm = true → ∀ (i : Nat) (pins : List (Addr × Obj)) (s : Shared) (σ : L2.St) (H : Hp), Inv X pins σ H s → tn i s.heap → J.stop i H →
      ∃ (fpW : List Addr) (Pt : Nat → Array Value → Prop) (St : Nat → Heap → Prop) (Mid : Nat → Addr → Heap → Prop), WalksT P w X.A z fpW wr i Pt St Mid ∧ St i s.heap)
    (self : ∀ (A : Around) (i : Nat) (s : Shared) (Q : Value → Shared → Prop) (E : Value → Shared → Prop), tn i s.heap → Q (.ref z) s → wpAny (model P w) A (pyIter (.ref z)) Q E s) : Turn P w K (.Tuple elts kk tpos) J fp z tn where
  mem := mem
  obj := obj
  keep := keep
  item := by
    intro X hP hw hK hc i pins s σ H E I hf st hg
    obtain ⟨fpW, n, Pt, St, Mid, W, hi, hst, hn, hv⟩ := item X hP hw hK hc i pins s σ H I st hg
    subst hP hw hK
    refine W.item i s _ _ hi hst fun T vals h' tk hPt hT hTup hMid hk => ?_
    obtain ⟨xs, rv, hz, hy⟩ := hv vals hPt
    have hnT : H T = none := I.hok.fresh hT
    refine ⟨_, rfl, W.go elts kk tpos i T { s with heap := h', toks := tk } _ _ hMid fun h'' hst' hk' => ?_⟩
    have hTw : T ∉ wr := W.apart i T h' hMid
    have hTup2 : h''.IsTuple T vals := hTup.at fun o e => hk' T o hTw e
    have new : ObjOk X.prog X.w (upd H T (.tup xs)) h'' T (.tup xs) := ⟨hz, vals.toList, rv, (show vals.toList.toArray = vals by simp) ▸ hTup2⟩
    have I1 : Inv X pins σ (upd H T (.tup xs)) { s with heap := h'', toks := tk } :=
      I.turnedNew (ch := wr) (fun b o hb q => hk' b o hb (hk b o hb q)) (fun b hb => hf b (sub b hb)) hT new
    refine ⟨.ref T, _, I1, rfl, hy T hnT, hn _ hst', fun b hb => ?_⟩
    obtain ⟨o, e, _⟩ := obj i _ st b hb
    rw [upd_ne (Nat.ne_of_lt (Nat.lt_of_lt_of_le (Heap.lt_size e) hT))]
    exact (hf b hb).1
  done := by
    intro X hP hw hK hc i pins s σ H E I hf st hg
    obtain ⟨fpW, Pt, St, Mid, W, hst⟩ := done X hP hw hK hc i pins s σ H I st hg
    subst hP hw hK
    exact W.done s _ _ hst fun h' tk hk => ⟨rfl, I.turnedL (ch := wr) (fun b o hb q => hk b o hb q) fun b hb => hf b (sub b hb)⟩
  self := self

/-- zip of two -/
def ItZ2 (K : PySem.W.Frag) (a b : Src) : It :=
  ⟨fun i H => ∃ xs ys x y, SqS K H a xs ∧ SqS K H b ys ∧ xs[i]? = some x ∧ ys[i]? = some y,
    fun i H v H' => ∃ T x y, v = .ref T ∧ H T = none ∧ H' = upd H T (.tup [x, y]) ∧ (∀ xs, SqS K H a xs → xs[i]? = some x) ∧ ∀ ys, SqS K H b ys → ys[i]? = some y,
    fun i H => ∃ xs ys, SqS K H a xs ∧ SqS K H b ys ∧ i = min xs.length ys.length⟩
theorem vals_get {vs : List V} {its : List Value} (r : Vals vs its) {i : Nat} {u : Value} (h : its.toArray[i]? = some u) : ∃ v, vs[i]? = some v ∧ RelV v u := by
  have h' : its[i]? = some u := by simpa using h
  have hl := r.length
  have hi := (List.getElem?_eq_some_iff.mp h').1
  obtain ⟨u', e, q⟩ := r.get (List.getElem?_eq_getElem (show i < vs.length by omega))
  rw [h'] at e
  cases e
  exact ⟨_, List.getElem?_eq_getElem _, q⟩
theorem turn_zip2 {P : Program} {w : World} {K : PySem.W.Frag} {elts : List Expr} {kk : Nat} {tpos : Pos} {a b : Src} {z TI TO i1 i2 : Addr} (S : ZipSep2 z TI TO i1 i2 [i1, a.ad] [i2, b.ad]) (n1 : a.ad ≠ i1) (n2 : b.ad ≠ i2) :
    Turn P w K (.Tuple elts kk tpos) (ItZ2 K a b) [z, TI, TO, i1, i2] z (fun i h => IsZip h z TI TO .none ∧ IsTupOf2 h TI (.ref i1) (.ref i2) ∧ (∃ x y, IsTupOf2 h TO x y) ∧ itS h i1 a i ∧ itS h i2 b i) := by
  refine turn_gen (wr := [z, TO, i1, i2]) (by simp) (fun b hb => by simp at hb ⊢; rcases hb with h | h | h | h <;> simp [h]) (fun i h st c hc => ?_) (fun i h h' st k => ?_) (fun X hP hw hK hc i pins s σ H I st hg => ?_) (fun X hP hw hK hc i pins s σ H I st hg => ?_) fun A i s Q E st h => wpAny_pyIter_zip st.1 h
  · obtain ⟨hz, hTI, ⟨x, y, hTO⟩, h1, h2⟩ := st
    have e' : c = z ∨ c = TI ∨ c = TO ∨ c = i1 ∨ c = i2 := by simpa using hc
    rcases e' with q | q | q | q | q
    · rw [q]; exact ⟨_, hz, fun v q => nomatch q⟩
    · rw [q]; exact ⟨_, hTI, fun v q => nomatch q⟩
    · rw [q]; exact ⟨_, hTO, fun v q => nomatch q⟩
    · rw [q]; exact itS_obj h1
    · rw [q]; exact itS_obj h2
  · obtain ⟨hz, hTI, ⟨x, y, hTO⟩, h1, h2⟩ := st
    exact ⟨k z (by simp) _ hz, k TI (by simp) _ hTI, ⟨x, y, k TO (by simp) _ hTO⟩, itS_at h1 fun o q => k i1 (by simp) o q, itS_at h2 fun o q => k i2 (by simp) o q⟩
  · subst hP hw hK
    obtain ⟨hz, hTI, hTO, h1, h2⟩ := st
    obtain ⟨xs, ys, x, y, q1, q2, e1, e2⟩ := hg
    obtain ⟨its, r1, a1, z1, _⟩ := Inv.src I q1
    obtain ⟨jts, r2, a2, z2, _⟩ := Inv.src I q2
    refine ⟨_, _, _, _, _, WalksT.zipD2 S (drawS (A := X.A.in1) (I.ok.hd hc) i1 a n1 its.toArray) (drawS (A := X.A.in1) (I.ok.hd hc) i2 b n2 jts.toArray), ?_, ⟨hz, hTI, hTO, ⟨h1, a1⟩, ⟨h2, a2⟩⟩, fun h st => ⟨st.1, st.2.1, st.2.2.1, st.2.2.2.1.1, st.2.2.2.2.1⟩, fun vals hv => ?_⟩
    · have l1 := r1.length
      have l2 := r2.length
      have := (List.getElem?_eq_some_iff.mp e1).1
      have := (List.getElem?_eq_some_iff.mp e2).1
      simp only [List.size_toArray]
      omega
    · obtain ⟨u1, u2, p1, p2, rfl⟩ := hv
      obtain ⟨v1, g1, rv1⟩ := vals_get r1 p1
      obtain ⟨v2, g2, rv2⟩ := vals_get r2 p2
      refine ⟨[v1, v2], .cons rv1 (.cons rv2 .nil), by show 2 ≤ sizeLine; decide, fun T hT => ⟨T, v1, v2, rfl, hT, rfl, fun xs' h' => ?_, fun ys' h' => ?_⟩⟩
      · rw [Inv.src_inj I h' q1]; exact g1
      · rw [Inv.src_inj I h' q2]; exact g2
  · subst hP hw hK
    obtain ⟨hz, hTI, hTO, h1, h2⟩ := st
    obtain ⟨xs, ys, q1, q2, ei⟩ := hg
    obtain ⟨its, r1, a1, z1, _⟩ := Inv.src I q1
    obtain ⟨jts, r2, a2, z2, _⟩ := Inv.src I q2
    have W := WalksT.zipD2 S (drawS (prog := X.prog) (w := X.w) (A := X.A.in1) (I.ok.hd hc) i1 a n1 its.toArray) (drawS (A := X.A.in1) (I.ok.hd hc) i2 b n2 jts.toArray)
    have en : min its.toArray.size jts.toArray.size = i := by
      have l1 := r1.length
      have l2 := r2.length
      simp only [List.size_toArray]
      omega
    rw [en] at W
    exact ⟨_, _, _, _, W, ⟨hz, hTI, hTO, ⟨h1, a1⟩, ⟨h2, a2⟩⟩⟩
def rZ2 (K : PySem.W.Frag) (ta : TA) : TI := fun σ H Rr => ta σ H fun vs H1 => ∃ (a b : Src) (xs ys : List V), vs = [.ref a.ad, .ref b.ad] ∧ SqS K H1 a xs ∧ SqS K H1 b ys ∧ (xs.length ≤ sizeLine → ys.length ≤ sizeLine → Rr (ItZ2 K a b) H1)
theorem pi_zip2 {X : Cx} {e e2 : Expr} {ta : TA} {p pos tpos : Pos} {elts : List Expr} {kk : Nat} (hg : Gl X "zip") (hm : X.mg "zip" = none) (ha : PA X [e, e2] ta)
    (hs : starEach [e, e2] X.env = (false, eval e X.env) :: starEach [e2] X.env := by rfl) (hpl : (backTo pos (starEach [e2] X.env)).any (·.1) = false := by rfl) :
    PI X (.Tuple elts kk tpos) (.Call (.Name "zip" p) [e, e2] [] pos) (rZ2 X.K ta) := by
  refine ⟨fun pins s σ H R I h => ?_⟩
  refine Call_ (ld_blt I hg hm PyProof.Rows.boot_zip (PyProof.Rows.callWith_type1 (thn (ha.run pos pins s σ H _ I h) fun us s1 ⟨vs, H1, I1, r1, q1⟩ => ?_) hs hpl))
  obtain ⟨a, b, xs, ys, ex, hqx, hqy, q⟩ := q1
  subst ex
  cases r1 with
  | cons r rr =>
    cases rr with
    | cons r' rr =>
      cases rr
      cases r
      cases r'
      obtain ⟨its, rv, p1, z1, la⟩ := Inv.src I1 hqx
      obtain ⟨its2, rv2, p2, z2, lb⟩ := Inv.src I1 hqy
      refine zip_begins2 (begS a its.toArray) (begS b its2.toArray) p1 p2 fun h' hz hTI hTO g1 g2 hsz hk => wpAny_pyIter_zip hz ?_
      have I2 : Inv X pins σ H1 { s1 with heap := h' } := I1.kept (t' := s1.toks) hk
      refine ⟨s1.heap.objs.size + 4, [s1.heap.objs.size + 4, s1.heap.objs.size + 2, s1.heap.objs.size + 3, s1.heap.objs.size, s1.heap.objs.size + 1], _, _, H1, rfl, I2,
        turn_zip2 (zip_sep2 (fp1 := [a.ad]) (fp2 := [b.ad]) (fun c hc => by rw [List.mem_singleton.mp hc]; exact la) fun c hc => by rw [List.mem_singleton.mp hc]; exact lb) (Nat.ne_of_lt la) (Nat.ne_of_lt (Nat.lt_succ_of_lt lb)), ⟨hz, hTI, ⟨_, _, hTO⟩, itS_new g1, itS_new g2⟩, fun c hcm => ?_, q z1 z2⟩
      have e' : c = s1.heap.objs.size + 4 ∨ c = s1.heap.objs.size + 2 ∨ c = s1.heap.objs.size + 3 ∨ c = s1.heap.objs.size ∨ c = s1.heap.objs.size + 1 := by simpa using hcm
      have hle : s1.heap.objs.size ≤ c := by
        rcases e' with z | z | z | z | z <;> rw [z] <;> first | exact Nat.le_add_right _ _ | exact Nat.le_refl _
      exact I1.fpOk hle (I1.hok.fresh hle)

/-- zip of three -/
def ItZ3 (K : PySem.W.Frag) (a b c : Src) : It :=
  ⟨fun i H => ∃ xs ys zs x y u, SqS K H a xs ∧ SqS K H b ys ∧ SqS K H c zs ∧ xs[i]? = some x ∧ ys[i]? = some y ∧ zs[i]? = some u,
    fun i H v H' => ∃ T x y u, v = .ref T ∧ H T = none ∧ H' = upd H T (.tup [x, y, u]) ∧ (∀ xs, SqS K H a xs → xs[i]? = some x) ∧ (∀ ys, SqS K H b ys → ys[i]? = some y) ∧ ∀ zs, SqS K H c zs → zs[i]? = some u,
    fun i H => ∃ xs ys zs, SqS K H a xs ∧ SqS K H b ys ∧ SqS K H c zs ∧ i = min (min xs.length ys.length) zs.length⟩
theorem turn_zip3 {P : Program} {w : World} {K : PySem.W.Frag} {elts : List Expr} {kk : Nat} {tpos : Pos} {a b d : Src} {z TI TO i1 i2 i3 : Addr} (S : ZipSep3 z TI TO i1 i2 i3 [i1, a.ad] [i2, b.ad] [i3, d.ad]) (n1 : a.ad ≠ i1) (n2 : b.ad ≠ i2) (n3 : d.ad ≠ i3) :
    Turn P w K (.Tuple elts kk tpos) (ItZ3 K a b d) [z, TI, TO, i1, i2, i3] z (fun i h => IsZip h z TI TO .none ∧ IsTupOf3 h TI (.ref i1) (.ref i2) (.ref i3) ∧ (∃ x y u, IsTupOf3 h TO x y u) ∧ itS h i1 a i ∧ itS h i2 b i ∧ itS h i3 d i) := by
  refine turn_gen (wr := [z, TO, i1, i2, i3]) (by simp) (fun b hb => by simp at hb ⊢; rcases hb with h | h | h | h | h <;> simp [h]) (fun i h st c hc => ?_) (fun i h h' st k => ?_) (fun X hP hw hK hc i pins s σ H I st hg => ?_) (fun X hP hw hK hc i pins s σ H I st hg => ?_) fun A i s Q E st h => wpAny_pyIter_zip st.1 h
  · obtain ⟨hz, hTI, ⟨x, y, u, hTO⟩, h1, h2, h3⟩ := st
    have e' : c = z ∨ c = TI ∨ c = TO ∨ c = i1 ∨ c = i2 ∨ c = i3 := by simpa using hc
    rcases e' with q | q | q | q | q | q
    · rw [q]; exact ⟨_, hz, fun v q => nomatch q⟩
    · rw [q]; exact ⟨_, hTI, fun v q => nomatch q⟩
    · rw [q]; exact ⟨_, hTO, fun v q => nomatch q⟩
    · rw [q]; exact itS_obj h1
    · rw [q]; exact itS_obj h2
    · rw [q]; exact itS_obj h3
  · obtain ⟨hz, hTI, ⟨x, y, u, hTO⟩, h1, h2, h3⟩ := st
    exact ⟨k z (by simp) _ hz, k TI (by simp) _ hTI, ⟨x, y, u, k TO (by simp) _ hTO⟩, itS_at h1 fun o q => k i1 (by simp) o q, itS_at h2 fun o q => k i2 (by simp) o q, itS_at h3 fun o q => k i3 (by simp) o q⟩
  · subst hP hw hK
    obtain ⟨hz, hTI, hTO, h1, h2, h3⟩ := st
    obtain ⟨xs, ys, zs, x, y, u, q1, q2, q3, e1, e2, e3⟩ := hg
    obtain ⟨its, r1, a1, z1, _⟩ := Inv.src I q1
    obtain ⟨jts, r2, a2, z2, _⟩ := Inv.src I q2
    obtain ⟨kts, r3, a3, z3, _⟩ := Inv.src I q3
    refine ⟨_, _, _, _, _, WalksT.zipD3 S (drawS (A := X.A.in1) (I.ok.hd hc) i1 a n1 its.toArray) (drawS (A := X.A.in1) (I.ok.hd hc) i2 b n2 jts.toArray) (drawS (A := X.A.in1) (I.ok.hd hc) i3 d n3 kts.toArray), ?_, ⟨hz, hTI, hTO, ⟨h1, a1⟩, ⟨h2, a2⟩, ⟨h3, a3⟩⟩, fun h st => ⟨st.1, st.2.1, st.2.2.1, st.2.2.2.1.1, st.2.2.2.2.1.1, st.2.2.2.2.2.1⟩, fun vals hv => ?_⟩
    · have l1 := r1.length
      have l2 := r2.length
      have l3 := r3.length
      have := (List.getElem?_eq_some_iff.mp e1).1
      have := (List.getElem?_eq_some_iff.mp e2).1
      have := (List.getElem?_eq_some_iff.mp e3).1
      simp only [List.size_toArray]
      omega
    · obtain ⟨u1, u2, u3, p1, p2, p3, rfl⟩ := hv
      obtain ⟨v1, g1, rv1⟩ := vals_get r1 p1
      obtain ⟨v2, g2, rv2⟩ := vals_get r2 p2
      obtain ⟨v3, g3, rv3⟩ := vals_get r3 p3
      refine ⟨[v1, v2, v3], .cons rv1 (.cons rv2 (.cons rv3 .nil)), by show 3 ≤ sizeLine; decide, fun T hT => ⟨T, v1, v2, v3, rfl, hT, rfl, fun xs' h' => ?_, fun ys' h' => ?_, fun zs' h' => ?_⟩⟩
      · rw [Inv.src_inj I h' q1]; exact g1
      · rw [Inv.src_inj I h' q2]; exact g2
      · rw [Inv.src_inj I h' q3]; exact g3
  · subst hP hw hK
    obtain ⟨hz, hTI, hTO, h1, h2, h3⟩ := st
    obtain ⟨xs, ys, zs, q1, q2, q3, ei⟩ := hg
    obtain ⟨its, r1, a1, z1, _⟩ := Inv.src I q1
    obtain ⟨jts, r2, a2, z2, _⟩ := Inv.src I q2
    obtain ⟨kts, r3, a3, z3, _⟩ := Inv.src I q3
    have W := WalksT.zipD3 S (drawS (prog := X.prog) (w := X.w) (A := X.A.in1) (I.ok.hd hc) i1 a n1 its.toArray) (drawS (A := X.A.in1) (I.ok.hd hc) i2 b n2 jts.toArray) (drawS (A := X.A.in1) (I.ok.hd hc) i3 d n3 kts.toArray)
    have en : min (min its.toArray.size jts.toArray.size) kts.toArray.size = i := by
      have l1 := r1.length
      have l2 := r2.length
      have l3 := r3.length
      simp only [List.size_toArray]
      omega
    rw [en] at W
    exact ⟨_, _, _, _, W, ⟨hz, hTI, hTO, ⟨h1, a1⟩, ⟨h2, a2⟩, ⟨h3, a3⟩⟩⟩
def rZ3 (K : PySem.W.Frag) (ta : TA) : TI := fun σ H Rr => ta σ H fun vs H1 => ∃ (a b c : Src) (xs ys zs : List V), vs = [.ref a.ad, .ref b.ad, .ref c.ad] ∧ SqS K H1 a xs ∧ SqS K H1 b ys ∧ SqS K H1 c zs ∧ (xs.length ≤ sizeLine → ys.length ≤ sizeLine → zs.length ≤ sizeLine → Rr (ItZ3 K a b c) H1)
theorem pi_zip3 {X : Cx} {e e2 e3 : Expr} {ta : TA} {p pos tpos : Pos} {elts : List Expr} {kk : Nat} (hg : Gl X "zip") (hm : X.mg "zip" = none) (ha : PA X [e, e2, e3] ta)
    (hs : starEach [e, e2, e3] X.env = (false, eval e X.env) :: starEach [e2, e3] X.env := by rfl) (hpl : (backTo pos (starEach [e2, e3] X.env)).any (·.1) = false := by rfl) :
    PI X (.Tuple elts kk tpos) (.Call (.Name "zip" p) [e, e2, e3] [] pos) (rZ3 X.K ta) := by
  refine ⟨fun pins s σ H R I h => ?_⟩
  refine Call_ (ld_blt I hg hm PyProof.Rows.boot_zip (PyProof.Rows.callWith_type1 (thn (ha.run pos pins s σ H _ I h) fun us s1 ⟨vs, H1, I1, r1, q1⟩ => ?_) hs hpl))
  obtain ⟨a, b, c, xs, ys, zs, ex, hqx, hqy, hqz, q⟩ := q1
  subst ex
  cases r1 with
  | cons r rr =>
    cases rr with
    | cons r' rr =>
      cases rr with
      | cons r2 rr =>
        cases rr
        cases r
        cases r'
        cases r2
        obtain ⟨its, rv, p1, z1, la⟩ := Inv.src I1 hqx
        obtain ⟨its2, rv2, p2, z2, lb⟩ := Inv.src I1 hqy
        obtain ⟨its3, rv3, p3, z3, lc⟩ := Inv.src I1 hqz
        refine zip_begins3 (begS a its.toArray) (begS b its2.toArray) (begS c its3.toArray) p1 p2 p3 fun h' hz hTI hTO g1 g2 g3 hsz hk => wpAny_pyIter_zip hz ?_
        have I2 : Inv X pins σ H1 { s1 with heap := h' } := I1.kept (t' := s1.toks) hk
        refine ⟨s1.heap.objs.size + 5, [s1.heap.objs.size + 5, s1.heap.objs.size + 3, s1.heap.objs.size + 4, s1.heap.objs.size, s1.heap.objs.size + 1, s1.heap.objs.size + 2], _, _, H1, rfl, I2,
          turn_zip3 (zip_sep3 (fp1 := [a.ad]) (fp2 := [b.ad]) (fp3 := [c.ad]) (fun c hc => by rw [List.mem_singleton.mp hc]; exact la) (fun c hc => by rw [List.mem_singleton.mp hc]; exact lb) fun c hc => by rw [List.mem_singleton.mp hc]; exact lc) (Nat.ne_of_lt la) (Nat.ne_of_lt (Nat.lt_succ_of_lt lb)) (Nat.ne_of_lt (Nat.lt_succ_of_lt (Nat.lt_succ_of_lt lc))), ⟨hz, hTI, ⟨_, _, _, hTO⟩, itS_new g1, itS_new g2, itS_new g3⟩, fun c hcm => ?_, q z1 z2 z3⟩
        have e' : c = s1.heap.objs.size + 5 ∨ c = s1.heap.objs.size + 3 ∨ c = s1.heap.objs.size + 4 ∨ c = s1.heap.objs.size ∨ c = s1.heap.objs.size + 1 ∨ c = s1.heap.objs.size + 2 := by simpa using hcm
        have hle : s1.heap.objs.size ≤ c := by
          rcases e' with z | z | z | z | z | z <;> rw [z] <;> first | exact Nat.le_add_right _ _ | exact Nat.le_refl _
        exact I1.fpOk hle (I1.hok.fresh hle)
/-- enumerate -/
def ItE (K : PySem.W.Frag) (a : Src) : It :=
  ⟨fun i H => ∃ xs x, SqS K H a xs ∧ xs[i]? = some x,
    fun i H v H' => ∃ T x, v = .ref T ∧ H T = none ∧ H' = upd H T (.tup [.int (i : Nat), x]) ∧ (∀ xs, SqS K H a xs → xs[i]? = some x),
    fun i H => ∃ xs, SqS K H a xs ∧ i = xs.length⟩
theorem turn_enumS {P : Program} {w : World} {K : PySem.W.Frag} {elts : List Expr} {kk : Nat} {tpos : Pos} {a : Src} {z it : Addr} (ne : z ≠ it) (nz : z ≠ a.ad) (n1 : a.ad ≠ it) :
    Turn P w K (.Tuple elts kk tpos) (ItE K a) [z, it] z (fun i h => (∃ old, IsEnum h z it ((0 : Int) + ((i : Nat) : Int)) old) ∧ itS h it a i) := by
  refine turn_gen (wr := [z, it]) (by simp) (fun b hb => hb) (fun i h st c hc => ?_) (fun i h h' st k => ?_) (fun X hP hw hK hc i pins s σ H I st hg => ?_) (fun X hP hw hK hc i pins s σ H I st hg => ?_) fun A i s Q E st h => by obtain ⟨⟨old, e⟩, _⟩ := st; exact wpAny_pyIter_enum e h
  · obtain ⟨⟨old, he⟩, h1⟩ := st
    have e' : c = z ∨ c = it := by simpa using hc
    rcases e' with q | q
    · rw [q]; exact ⟨_, he, fun v q => nomatch q⟩
    · rw [q]; exact itS_obj h1
  · obtain ⟨⟨old, he⟩, h1⟩ := st
    exact ⟨⟨old, k z (by simp) _ he⟩, itS_at h1 fun o q => k it (by simp) o q⟩
  · subst hP hw hK
    obtain ⟨he, h1⟩ := st
    obtain ⟨xs, x, q1, e1⟩ := hg
    obtain ⟨its, r1, a1, z1, _⟩ := Inv.src I q1
    have hef : z ∉ [it, a.ad] := by simp [ne, nz]
    refine ⟨_, _, _, _, _, WalksT.enumFrom 0 (drawS (A := X.A.in1) (I.ok.hd hc) it a n1 its.toArray) z ne hef (by simp), ?_, ⟨he, ⟨h1, a1⟩⟩, fun h st => ⟨st.1, st.2.1⟩, fun vals hv => ?_⟩
    · have l1 := r1.length
      have := (List.getElem?_eq_some_iff.mp e1).1
      simp only [List.size_toArray]
      omega
    · obtain ⟨t, u1, p1, rfl⟩ := hv
      obtain ⟨v1, g1, rv1⟩ := vals_get r1 p1
      refine ⟨[.int (i : Nat), v1], .cons ⟨t, by rw [Int.zero_add]⟩ (.cons rv1 .nil), by show 2 ≤ sizeLine; decide, fun T hT => ⟨T, v1, rfl, hT, rfl, fun xs' h' => ?_⟩⟩
      rw [Inv.src_inj I h' q1]; exact g1
  · subst hP hw hK
    obtain ⟨he, h1⟩ := st
    obtain ⟨xs, q1, ei⟩ := hg
    obtain ⟨its, r1, a1, z1, _⟩ := Inv.src I q1
    have hef : z ∉ [it, a.ad] := by simp [ne, nz]
    have W := WalksT.enumFrom 0 (drawS (prog := X.prog) (w := X.w) (A := X.A.in1) (I.ok.hd hc) it a n1 its.toArray) z ne hef (by simp)
    have en : its.toArray.size = i := by
      have l1 := r1.length
      simp only [List.size_toArray]
      omega
    rw [en] at W
    exact ⟨_, _, _, _, W, ⟨he, ⟨h1, a1⟩⟩⟩
def rEn (K : PySem.W.Frag) (ta : TA) : TI := fun σ H Rr => ta σ H fun vs H1 => ∃ (a : Src) (xs : List V), vs = [.ref a.ad] ∧ SqS K H1 a xs ∧ (xs.length ≤ sizeLine → Rr (ItE K a) H1)
theorem pi_enumS {X : Cx} {e : Expr} {ta : TA} {p pos tpos : Pos} {elts : List Expr} {kk : Nat} (hg : Gl X "enumerate") (hm : X.mg "enumerate" = none) (ha : PA X [e] ta) (hs : starEach [e] X.env = [(false, eval e X.env)] := by rfl) :
    PI X (.Tuple elts kk tpos) (.Call (.Name "enumerate" p) [e] [] pos) (rEn X.K ta) := by
  refine ⟨fun pins s σ H R I h => ?_⟩
  refine Call_ (ld_blt I hg hm boot_enumerate (PyProof.Rows.callWith_type1 (thn (ha.run pos pins s σ H _ I h) fun us s1 ⟨vs, H1, I1, r1, q1⟩ => ?_) hs rfl))
  obtain ⟨a, xs, ex, hqx, q⟩ := q1
  subst ex
  cases r1 with
  | cons r rr =>
    cases rr
    cases r
    obtain ⟨its, rv, p1, z1, la⟩ := Inv.src I1 hqx
    refine enum_begins1 (begS a its.toArray) p1 fun h' he g1 hsz hk => wpAny_pyIter_enum he ?_
    have I2 : Inv X pins σ H1 { s1 with heap := h' } := I1.kept (t' := s1.toks) hk
    refine ⟨s1.heap.objs.size + 1, [s1.heap.objs.size + 1, s1.heap.objs.size], _, _, H1, rfl, I2, turn_enumS (Nat.succ_ne_self _) (Nat.ne_of_gt (Nat.lt_succ_of_lt la)) (Nat.ne_of_lt la), ⟨⟨.none, he⟩, itS_new g1⟩, fun c hcm => ?_, q z1⟩
    have e' : c = s1.heap.objs.size + 1 ∨ c = s1.heap.objs.size := by simpa using hcm
    have hle : s1.heap.objs.size ≤ c := by
      rcases e' with z | z <;> rw [z] <;> first | exact Nat.le_add_right _ _ | exact Nat.le_refl _
    exact I1.fpOk hle (I1.hok.fresh hle)
end PL
set_option Elab.async false
set_option linter.all false
set_option maxRecDepth 100000
set_option maxHeartbeats 4000000
/-! PLl: zip, enumerate as what is walked; defs by their bodies. -/
namespace PL
open PySem PySem.Spec PyProof.Rows L2

def zipP : List PV → List PV → List PV
  | x :: xs, y :: ys => .tup [x, y] :: zipP xs ys
  | _, _ => []
def zip3P : List PV → List PV → List PV → List PV
  | x :: xs, y :: ys, z :: zs => .tup [x, y, z] :: zip3P xs ys zs
  | _, _, _ => []
def enumP : Nat → List PV → List PV
  | i, x :: xs => .tup [.int (i : Nat), x] :: enumP (i + 1) xs
  | _, [] => []
theorem zipP_len : ∀ xs ys : List PV, (zipP xs ys).length = min xs.length ys.length
  | [], ys => by simp [zipP]
  | _ :: _, [] => by simp [zipP]
  | x :: xs, y :: ys => by rw [zipP, List.length_cons, zipP_len, List.length_cons, List.length_cons]; omega
theorem zip3P_len : ∀ xs ys zs : List PV, (zip3P xs ys zs).length = min (min xs.length ys.length) zs.length
  | [], ys, zs => by simp [zip3P]
  | _ :: _, [], zs => by simp [zip3P]
  | _ :: _, _ :: _, [] => by simp [zip3P]
  | x :: xs, y :: ys, z :: zs => by rw [zip3P, List.length_cons, zip3P_len]; simp only [List.length_cons]; omega
theorem enumP_len : ∀ (i : Nat) (xs : List PV), (enumP i xs).length = xs.length
  | _, [] => rfl
  | i, x :: xs => by rw [enumP, List.length_cons, enumP_len, List.length_cons]
theorem zipP_get : ∀ {xs ys : List PV} {i : Nat} {x y : PV}, xs[i]? = some x → ys[i]? = some y → (zipP xs ys)[i]? = some (.tup [x, y])
  | [], _, _, _, _, h, _ => by simp at h
  | _ :: _, [], _, _, _, _, h => by simp at h
  | a :: xs, b :: ys, 0, x, y, h1, h2 => by simp at h1 h2; subst h1 h2; rfl
  | a :: xs, b :: ys, i + 1, x, y, h1, h2 => by
    rw [zipP, List.getElem?_cons_succ]
    exact zipP_get (by simpa using h1) (by simpa using h2)
theorem zip3P_get : ∀ {xs ys zs : List PV} {i : Nat} {x y z : PV}, xs[i]? = some x → ys[i]? = some y → zs[i]? = some z → (zip3P xs ys zs)[i]? = some (.tup [x, y, z])
  | [], _, _, _, _, _, _, h, _, _ => by simp at h
  | _ :: _, [], _, _, _, _, _, _, h, _ => by simp at h
  | _ :: _, _ :: _, [], _, _, _, _, _, _, h => by simp at h
  | a :: xs, b :: ys, c :: zs, 0, x, y, z, h1, h2, h3 => by simp at h1 h2 h3; subst h1 h2 h3; rfl
  | a :: xs, b :: ys, c :: zs, i + 1, x, y, z, h1, h2, h3 => by
    rw [zip3P, List.getElem?_cons_succ]
    exact zip3P_get (by simpa using h1) (by simpa using h2) (by simpa using h3)
theorem enumP_get : ∀ {xs : List PV} {j i : Nat} {x : PV}, xs[i]? = some x → (enumP j xs)[i]? = some (.tup [.int ((j + i : Nat)), x])
  | [], _, _, _, h => by simp at h
  | a :: xs, j, 0, x, h => by simp at h; subst h; rfl
  | a :: xs, j, i + 1, x, h => by
    rw [enumP, List.getElem?_cons_succ, enumP_get (j := j + 1) (i := i) (by simpa using h)]
    rw [show j + 1 + i = j + (i + 1) by omega]
def iZip2 (fs : PFs) : PIF := fun ρ => (fs ρ).bind fun x => match x.1 with
  | [r, s] => (seqOf (tmpOf r)).bind fun xs => (seqOf (tmpOf s)).map fun ys => (zipP xs ys, [r, s], x.2)
  | _ => none
def iZip3 (fs : PFs) : PIF := fun ρ => (fs ρ).bind fun x => match x.1 with
  | [r, s, t] => (seqOf (tmpOf r)).bind fun xs => (seqOf (tmpOf s)).bind fun ys => (seqOf (tmpOf t)).map fun zs => (zip3P xs ys zs, [r, s, t], x.2)
  | _ => none
def iEnum (fs : PFs) : PIF := fun ρ => (fs ρ).bind fun x => match x.1 with
  | [r] => (seqOf (tmpOf r)).map fun xs => (enumP 0 xs, [r], x.2)
  | _ => none
section
variable {X : Cx} {R : RE} {a b c : Expr} {fs : PFs} {p pos tpos : Pos} {elts : List Expr} {kk : Nat}
theorem RpL.get2 {F : Hp} {ps : List PV} {vs : List V} (h : RpL R F ps vs) {i : Nat} (hi : i < ps.length) : ∃ p v, ps[i]? = some p ∧ vs[i]? = some v ∧ Rp R F p v := by
  obtain ⟨v, h1, h2⟩ := h.get' (List.getElem?_eq_getElem hi)
  exact ⟨_, v, List.getElem?_eq_getElem hi, h1, h2⟩
theorem iv_zip2 (hK : R.K = X.K) (hg : Gl X "zip") (hm : X.mg "zip" = none) (h : Av X R [a, b] fs)
    (hs : starEach [a, b] X.env = (false, eval a X.env) :: starEach [b] X.env := by rfl) (hpl : (backTo pos (starEach [b] X.env)).any (·.1) = false := by rfl) :
    Iv X R (.Tuple elts kk tpos) (.Call (.Name "zip" p) [a, b] [] pos) (iZip2 fs) := by
  have key : ∀ {ρ ρ' : List Sl} {items : List PV} {rs : List Sl}, iZip2 fs ρ = some (items, rs, ρ') → ∃ r s xs ys, fs ρ = some ([r, s], ρ') ∧ seqOf (tmpOf r) = some xs ∧ seqOf (tmpOf s) = some ys ∧ items = zipP xs ys ∧ rs = [r, s] := by
    intro ρ ρ' items rs q
    unfold iZip2 at q
    rw [Option.bind_eq_some_iff] at q
    obtain ⟨⟨l, ρ1⟩, h1, q⟩ := q
    split at q
    · rename_i r s e1
      dsimp only at e1
      subst e1
      rw [Option.bind_eq_some_iff] at q
      obtain ⟨xs, h2, q⟩ := q
      rw [Option.map_eq_some_iff] at q
      obtain ⟨ys, h3, q⟩ := q
      cases q
      exact ⟨r, s, xs, ys, h1, h2, h3, rfl, rfl⟩
    · cases q
  refine ⟨fun ρ a b ρ' q => ?_, pi_mono (pi_zip2 hg hm h.pa hs hpl) fun σ H Q q => ?_⟩
  · obtain ⟨r, s, xs, ys, h1, _⟩ := key q
    exact h.len _ _ _ h1
  · obtain ⟨e, F, ρ, tm, items, rs, ρ', hl, hB, hf, k⟩ := q
    obtain ⟨r, s, xs, ys, h1, h2, h3, rfl, rfl⟩ := key hf
    refine ⟨e, F, ρ, tm, _, ρ', hl, hB, h1, fun vs H1 F1 B1 k1 => ?_⟩
    match vs, Paired.len k1 with
    | [v1, v2], _ =>
      have e1 : ([r, s].map tmpOf).zip ([v1, v2].map some) = [(tmpOf r, some v1), (tmpOf s, some v2)] := rfl
      rw [e1] at B1
      have at1 : ∀ {e' : En} {F' H' : Hp} {B : Bg}, Bag R e' F' H' (B ++ [(tmpOf r, some v1), (tmpOf s, some v2)]) → SlR R F' H' (tmpOf r) (some v1) ∧ SlR R F' H' (tmpOf s) (some v2) := fun hB => ⟨hB.mem (p := (tmpOf r, some v1)) (by simp), hB.mem (p := (tmpOf s, some v2)) (by simp)⟩
      obtain ⟨x1, x2⟩ := at1 B1
      obtain ⟨s1, ex1, kd1⟩ := src_of' x1 B1.sub h2
      obtain ⟨s2, ex2, kd2⟩ := src_of' x2 B1.sub h3
      subst ex1 ex2
      obtain ⟨ws1, hq1, hr1⟩ := src_now kd1 h2 x1 B1.sub
      obtain ⟨ws2, hq2, hr2⟩ := src_now kd2 h3 x2 B1.sub
      rw [hK] at hq1 hq2
      refine ⟨s1, s2, ws1, ws2, rfl, hq1, hq2, fun z1 z2 => ?_⟩
      refine k _ H1 F1 [.ref s1.ad, .ref s2.ad] B1 k1 (fun e' F' H' B i hB' => ?_) (by rw [zipP_len, hr1.length]; omega)
      obtain ⟨y1, y2⟩ := at1 hB'
      obtain ⟨us1, w1, rr1⟩ := src_now kd1 h2 y1 hB'.sub
      obtain ⟨us2, w2, rr2⟩ := src_now kd2 h3 y2 hB'.sub
      rw [hK] at w1 w2
      rw [zipP_len]
      refine ⟨fun hi => ?_, fun hi => ⟨us1, us2, w1, w2, by rw [hi, rr1.length, rr2.length]⟩⟩
      obtain ⟨p1, t1, g1, g1', rp1⟩ := rr1.get2 (i := i) (by omega)
      obtain ⟨p2, t2, g2, g2', rp2⟩ := rr2.get2 (i := i) (by omega)
      refine ⟨⟨us1, us2, t1, t2, w1, w2, g1', g2'⟩, fun v H2 y => ?_⟩
      obtain ⟨T, a1, a2, rfl, nT, rfl, f1, f2⟩ := y
      have b1 := f1 us1 w1
      have b2 := f2 us2 w2
      rw [g1'] at b1
      rw [g2'] at b2
      cases b1
      cases b2
      refine ⟨.tup [p1, p2], _, zipP_get g1 g2, hB'.lay_ice nT, .tup (.inl upd_same) (.cons ?_ (.cons ?_ .nil))⟩
      · exact rp1.mono (sub_upd (hB'.new nT).1)
      · exact rp2.mono (sub_upd (hB'.new nT).1)
theorem iv_zip3 (hK : R.K = X.K) (hg : Gl X "zip") (hm : X.mg "zip" = none) (h : Av X R [a, b, c] fs)
    (hs : starEach [a, b, c] X.env = (false, eval a X.env) :: starEach [b, c] X.env := by rfl) (hpl : (backTo pos (starEach [b, c] X.env)).any (·.1) = false := by rfl) :
    Iv X R (.Tuple elts kk tpos) (.Call (.Name "zip" p) [a, b, c] [] pos) (iZip3 fs) := by
  have key : ∀ {ρ ρ' : List Sl} {items : List PV} {rs : List Sl}, iZip3 fs ρ = some (items, rs, ρ') → ∃ r s t xs ys zs, fs ρ = some ([r, s, t], ρ') ∧ seqOf (tmpOf r) = some xs ∧ seqOf (tmpOf s) = some ys ∧ seqOf (tmpOf t) = some zs ∧ items = zip3P xs ys zs ∧ rs = [r, s, t] := by
    intro ρ ρ' items rs q
    unfold iZip3 at q
    rw [Option.bind_eq_some_iff] at q
    obtain ⟨⟨l, ρ1⟩, h1, q⟩ := q
    split at q
    · rename_i r s t e1
      dsimp only at e1
      subst e1
      rw [Option.bind_eq_some_iff] at q
      obtain ⟨xs, h2, q⟩ := q
      rw [Option.bind_eq_some_iff] at q
      obtain ⟨ys, h3, q⟩ := q
      rw [Option.map_eq_some_iff] at q
      obtain ⟨zs, h4, q⟩ := q
      cases q
      exact ⟨r, s, t, xs, ys, zs, h1, h2, h3, h4, rfl, rfl⟩
    · cases q
  refine ⟨fun ρ a b ρ' q => ?_, pi_mono (pi_zip3 hg hm h.pa hs hpl) fun σ H Q q => ?_⟩
  · obtain ⟨r, s, t, xs, ys, zs, h1, _⟩ := key q
    exact h.len _ _ _ h1
  · obtain ⟨e, F, ρ, tm, items, rs, ρ', hl, hB, hf, k⟩ := q
    obtain ⟨r, s, t, xs, ys, zs, h1, h2, h3, h4, rfl, rfl⟩ := key hf
    refine ⟨e, F, ρ, tm, _, ρ', hl, hB, h1, fun vs H1 F1 B1 k1 => ?_⟩
    match vs, Paired.len k1 with
    | [v1, v2, v3], _ =>
      have e1 : ([r, s, t].map tmpOf).zip ([v1, v2, v3].map some) = [(tmpOf r, some v1), (tmpOf s, some v2), (tmpOf t, some v3)] := rfl
      rw [e1] at B1
      have at1 : ∀ {e' : En} {F' H' : Hp} {B : Bg}, Bag R e' F' H' (B ++ [(tmpOf r, some v1), (tmpOf s, some v2), (tmpOf t, some v3)]) → SlR R F' H' (tmpOf r) (some v1) ∧ SlR R F' H' (tmpOf s) (some v2) ∧ SlR R F' H' (tmpOf t) (some v3) :=
        fun hB => ⟨hB.mem (p := (tmpOf r, some v1)) (by simp), hB.mem (p := (tmpOf s, some v2)) (by simp), hB.mem (p := (tmpOf t, some v3)) (by simp)⟩
      obtain ⟨x1, x2, x3⟩ := at1 B1
      obtain ⟨s1, ex1, kd1⟩ := src_of' x1 B1.sub h2
      obtain ⟨s2, ex2, kd2⟩ := src_of' x2 B1.sub h3
      obtain ⟨s3, ex3, kd3⟩ := src_of' x3 B1.sub h4
      subst ex1 ex2 ex3
      obtain ⟨ws1, hq1, hr1⟩ := src_now kd1 h2 x1 B1.sub
      obtain ⟨ws2, hq2, hr2⟩ := src_now kd2 h3 x2 B1.sub
      obtain ⟨ws3, hq3, hr3⟩ := src_now kd3 h4 x3 B1.sub
      rw [hK] at hq1 hq2 hq3
      refine ⟨s1, s2, s3, ws1, ws2, ws3, rfl, hq1, hq2, hq3, fun z1 z2 z3 => ?_⟩
      refine k _ H1 F1 [.ref s1.ad, .ref s2.ad, .ref s3.ad] B1 k1 (fun e' F' H' B i hB' => ?_) (by rw [zip3P_len, hr1.length]; omega)
      obtain ⟨y1, y2, y3⟩ := at1 hB'
      obtain ⟨us1, w1, rr1⟩ := src_now kd1 h2 y1 hB'.sub
      obtain ⟨us2, w2, rr2⟩ := src_now kd2 h3 y2 hB'.sub
      obtain ⟨us3, w3, rr3⟩ := src_now kd3 h4 y3 hB'.sub
      rw [hK] at w1 w2 w3
      rw [zip3P_len]
      refine ⟨fun hi => ?_, fun hi => ⟨us1, us2, us3, w1, w2, w3, by rw [hi, rr1.length, rr2.length, rr3.length]⟩⟩
      obtain ⟨p1, t1, g1, g1', rp1⟩ := rr1.get2 (i := i) (by omega)
      obtain ⟨p2, t2, g2, g2', rp2⟩ := rr2.get2 (i := i) (by omega)
      obtain ⟨p3, t3, g3, g3', rp3⟩ := rr3.get2 (i := i) (by omega)
      refine ⟨⟨us1, us2, us3, t1, t2, t3, w1, w2, w3, g1', g2', g3'⟩, fun v H2 y => ?_⟩
      obtain ⟨T, a1, a2, a3, rfl, nT, rfl, f1, f2, f3⟩ := y
      have b1 := f1 us1 w1
      have b2 := f2 us2 w2
      have b3 := f3 us3 w3
      rw [g1'] at b1
      rw [g2'] at b2
      rw [g3'] at b3
      cases b1
      cases b2
      cases b3
      have sb := sub_upd (o := .tup [t1, t2, t3]) (hB'.new nT).1
      exact ⟨.tup [p1, p2, p3], _, zip3P_get g1 g2 g3, hB'.lay_ice nT, .tup (.inl upd_same) (.cons (rp1.mono sb) (.cons (rp2.mono sb) (.cons (rp3.mono sb) .nil)))⟩
theorem iv_enum (hK : R.K = X.K) (hg : Gl X "enumerate") (hm : X.mg "enumerate" = none) (h : Av X R [a] fs) (hs : starEach [a] X.env = [(false, eval a X.env)] := by rfl) :
    Iv X R (.Tuple elts kk tpos) (.Call (.Name "enumerate" p) [a] [] pos) (iEnum fs) := by
  have key : ∀ {ρ ρ' : List Sl} {items : List PV} {rs : List Sl}, iEnum fs ρ = some (items, rs, ρ') → ∃ r xs, fs ρ = some ([r], ρ') ∧ seqOf (tmpOf r) = some xs ∧ items = enumP 0 xs ∧ rs = [r] := by
    intro ρ ρ' items rs q
    unfold iEnum at q
    rw [Option.bind_eq_some_iff] at q
    obtain ⟨⟨l, ρ1⟩, h1, q⟩ := q
    split at q
    · rename_i r e1
      dsimp only at e1
      subst e1
      rw [Option.map_eq_some_iff] at q
      obtain ⟨xs, h2, q⟩ := q
      cases q
      exact ⟨r, xs, h1, h2, rfl, rfl⟩
    · cases q
  refine ⟨fun ρ a b ρ' q => ?_, pi_mono (pi_enumS hg hm h.pa hs) fun σ H Q q => ?_⟩
  · obtain ⟨r, xs, h1, _⟩ := key q
    exact h.len _ _ _ h1
  · obtain ⟨e, F, ρ, tm, items, rs, ρ', hl, hB, hf, k⟩ := q
    obtain ⟨r, xs, h1, h2, rfl, rfl⟩ := key hf
    refine ⟨e, F, ρ, tm, _, ρ', hl, hB, h1, fun vs H1 F1 B1 k1 => ?_⟩
    match vs, Paired.len k1 with
    | [v1], _ =>
      have e1 : ([r].map tmpOf).zip ([v1].map some) = [(tmpOf r, some v1)] := rfl
      rw [e1] at B1
      have at1 : ∀ {e' : En} {F' H' : Hp} {B : Bg}, Bag R e' F' H' (B ++ [(tmpOf r, some v1)]) → SlR R F' H' (tmpOf r) (some v1) := fun hB => hB.mem (p := (tmpOf r, some v1)) (by simp)
      have x1 := at1 B1
      obtain ⟨s1, ex1, kd1⟩ := src_of' x1 B1.sub h2
      subst ex1
      obtain ⟨ws1, hq1, hr1⟩ := src_now kd1 h2 x1 B1.sub
      rw [hK] at hq1
      refine ⟨s1, ws1, rfl, hq1, fun z1 => ?_⟩
      refine k _ H1 F1 [.ref s1.ad] B1 k1 (fun e' F' H' B i hB' => ?_) (by rw [enumP_len, hr1.length]; omega)
      have y1 := at1 hB'
      obtain ⟨us1, w1, rr1⟩ := src_now kd1 h2 y1 hB'.sub
      rw [hK] at w1
      rw [enumP_len]
      refine ⟨fun hi => ?_, fun hi => ⟨us1, w1, by rw [hi, rr1.length]⟩⟩
      obtain ⟨p1, t1, g1, g1', rp1⟩ := rr1.get2 (i := i) (by omega)
      refine ⟨⟨us1, t1, w1, g1'⟩, fun v H2 y => ?_⟩
      obtain ⟨T, a1, rfl, nT, rfl, f1⟩ := y
      have b1 := f1 us1 w1
      rw [g1'] at b1
      cases b1
      have sb := sub_upd (o := .tup [.int (i : Nat), t1]) (hB'.new nT).1
      refine ⟨.tup [.int ((0 + i : Nat)), p1], _, enumP_get (j := 0) g1, hB'.lay_ice nT, .tup (.inl upd_same) (.cons ?_ (.cons (rp1.mono sb) .nil))⟩
      rw [Nat.zero_add]
      exact .int _
end

/-! ### defs -/
def prepP : List Bool → List Sl → List Sl
  | true :: m, s :: ss => (match valOf s with | some p => .fz p | none => .un) :: prepP m ss
  | false :: m, s :: ss => s :: prepP m ss
  | _, ss => ss
def finP : List Bool → List Sl → List Sl → List Sl
  | true :: m, p :: ps, _ :: ρ => p :: finP m ps ρ
  | false :: m, _ :: ps, s :: ρ => s :: finP m ps ρ
  | _, _, _ => []
/-- a def by its body: n parameters of N names; rs: which parameters are bound anew in the body (theirs are frozen) -/
def fnF (N : Nat) (rs : List Bool) (body : PSF) : FP := fun as => (body (prepP rs as ++ List.replicate (N - rs.length) .un)).bind fun x => match x.1 with
  | .rt v => some (v, finP rs (prepP rs as) x.2)
  | .nx => some (.fz .non, finP rs (prepP rs as) x.2)
  | _ => none
theorem prepP_len : ∀ (m : List Bool) (as : List Sl), (prepP m as).length = as.length
  | [], as => by unfold prepP; rfl
  | true :: m, [] => by unfold prepP; rfl
  | false :: m, [] => by unfold prepP; rfl
  | true :: m, s :: ss => by unfold prepP; rw [List.length_cons, List.length_cons, prepP_len m ss]
  | false :: m, s :: ss => by unfold prepP; rw [List.length_cons, List.length_cons, prepP_len m ss]
theorem finP_len : ∀ (m : List Bool) (ps ρ : List Sl), m.length = ps.length → ps.length ≤ ρ.length → (finP m ps ρ).length = ps.length
  | [], [], ρ, _, _ => by unfold finP; rfl
  | [], _ :: _, _, h, _ => by cases h
  | _ :: _, [], _, h, _ => by cases h
  | b :: m, p :: ps, [], _, h => by simp at h
  | b :: m, p :: ps, s :: ρ, h1, h2 => by
    cases b <;> (unfold finP; rw [List.length_cons, List.length_cons, finP_len m ps ρ (by simpa using h1) (by simpa using h2)])
theorem finP_get : ∀ {m : List Bool} {ps ρ : List Sl} {i : Nat} {s : Sl}, m.length = ps.length → ps.length ≤ ρ.length → (finP m ps ρ)[i]? = some s → (m[i]? = some true ∧ ps[i]? = some s) ∨ (m[i]? = some false ∧ ρ[i]? = some s)
  | [], [], ρ, i, s, _, _, h => by unfold finP at h; simp at h
  | [], _ :: _, _, _, _, h, _, _ => by cases h
  | _ :: _, [], _, _, _, h, _, _ => by cases h
  | b :: m, p :: ps, [], _, _, _, h, _ => by simp at h
  | b :: m, p :: ps, t :: ρ, 0, s, h1, h2, h => by
    cases b
    · unfold finP at h; simp at h; subst h; exact .inr ⟨rfl, rfl⟩
    · unfold finP at h; simp at h; subst h; exact .inl ⟨rfl, rfl⟩
  | b :: m, p :: ps, t :: ρ, i + 1, s, h1, h2, h => by
    have h' : (finP m ps ρ)[i]? = some s := by cases b <;> (unfold finP at h; simpa using h)
    have := finP_get (m := m) (ps := ps) (ρ := ρ) (i := i) (by simpa using h1) (by simpa using h2) h'
    simpa using this
section
variable {R : RE} {e : En} {F H : Hp}
theorem Bag.more {B : Bg} (h : Bag R e F H B) : ∀ {C : Bg}, (∀ p ∈ C, adr p.1 p.2 = none ∧ SlR R F H p.1 p.2) → Bag R e F H (B ++ C) := by
  intro C
  induction C generalizing B with
  | nil => intro _; rw [List.append_nil]; exact h
  | cons p C ih =>
    intro hc
    have h1 : Bag R e F H (B ++ [p]) := by
      obtain ⟨s, o⟩ := p
      obtain ⟨n, q⟩ := hc _ List.mem_cons_self
      exact h.push q n
    have := ih h1 fun q hq => hc q (List.mem_cons_of_mem _ hq)
    rw [List.append_assoc] at this
    exact this
/-- the masked parameters frozen -/
theorem Bag.prep {vs : List (Option V)} : ∀ {m : List Bool} {as : List Sl} {F : Hp} {B : Bg} {us : List (Option V)}, as.length = us.length → Bag R e F H (B ++ as.zip us) → ∃ F', Sub F F' ∧ Bag R e F' H (B ++ (prepP m as).zip us)
  | [], as, F, B, us, _, h => ⟨F, .refl, by unfold prepP; exact h⟩
  | true :: m, [], F, B, us, _, h => ⟨F, .refl, by unfold prepP; exact h⟩
  | false :: m, [], F, B, us, _, h => ⟨F, .refl, by unfold prepP; exact h⟩
  | b :: m, s :: ss, F, B, [], l, h => by cases l
  | false :: m, s :: ss, F, B, u :: us, l, h => by
    rw [List.zip_cons_cons] at h
    have h' : Bag R e F H (B ++ [(s, u)] ++ ss.zip us) := by rw [List.append_assoc]; exact h
    obtain ⟨F', sf, q⟩ := Bag.prep (vs := vs) (m := m) (by simpa using l) h'
    refine ⟨F', sf, ?_⟩
    unfold prepP
    rw [List.zip_cons_cons]
    rw [List.append_assoc] at q
    exact q
  | true :: m, s :: ss, F, B, u :: us, l, h => by
    rw [List.zip_cons_cons] at h
    have h' : Bag R e F H (B ++ [(s, u)] ++ ss.zip us) := by rw [List.append_assoc]; exact h
    obtain ⟨F', sf, q⟩ := Bag.prep (vs := vs) (m := m) (by simpa using l) h'
    have g : (B ++ [(s, u)] ++ (prepP m ss).zip us)[B.length]? = some (s, u) := by rw [List.append_assoc]; exact app_mid
    have eS : ∀ t : Sl, (B ++ [(s, u)] ++ (prepP m ss).zip us).set B.length (t, u) = B ++ (t, u) :: (prepP m ss).zip us := fun t => by
      rw [List.append_assoc, List.set_append_right _ _ (Nat.le_refl _), Nat.sub_self]; rfl
    unfold prepP
    rw [List.zip_cons_cons]
    cases s with
    | fz p => exact ⟨F', sf, by rw [List.append_assoc] at q; exact q⟩
    | own xs =>
      obtain ⟨F2, s2, q2⟩ := q.freeze g
      rw [eS] at q2
      exact ⟨F2, sf.trans s2, q2⟩
    | _ =>
      have q2 := q.put g (t := .un) trivial (fun _ z => nomatch z)
      rw [eS] at q2
      exact ⟨F', sf, q2⟩
end
theorem prepP_masked : ∀ {m : List Bool} {as : List Sl} {i : Nat} {s : Sl}, m[i]? = some true → (prepP m as)[i]? = some s → s = .un ∨ ∃ p, s = .fz p
  | [], _, _, _, h, _ => by simp at h
  | b :: m, [], _, _, _, h => by cases b <;> (unfold prepP at h; simp at h)
  | b :: m, t :: as, 0, s, h1, h2 => by
    simp at h1; subst h1
    unfold prepP at h2
    simp at h2
    subst h2
    cases valOf t with
    | none => exact .inl rfl
    | some p => exact .inr ⟨p, rfl⟩
  | b :: m, t :: as, i + 1, s, h1, h2 => by
    have h2' : (prepP m as)[i]? = some s := by cases b <;> (unfold prepP at h2; simpa using h2)
    exact prepP_masked (m := m) (by simpa using h1) h2'
def tmpsP (ps : List Sl) : List Sl := ps.map fun s => match s with
  | .fz p => .fz p
  | _ => .un
section
variable {P : Program} {w : World} {K : PySem.W.Frag} {mg : Str → Option Value} {base : Heap} {R : RE}
/-- THE RULE for a def: its body told by a function -/
theorem fn_pl {x qual : Str} {st : Stmt} {f : Addr} {fd : FuncData} {N ps : List Str} {k : Nat} {rs : List Bool} {body : PSF} {pr : List Nat} (F : Fun K x qual st f fd) (S : FnScope N ps (defScope st)) (hn : rs.length = ps.length) (hN : ps.length ≤ N.length)
    (hp : ∀ i : Nat, rs[i]? = some false → i ∈ pr)
    (hb : ∀ (cdv : Value) (A : Around) (outer : List Env) (s : Shared) (H : Hp) (E : XK), Room k (A.deeper (envOfC qual (defScope st) s.heap.objs.size f cdv)) → SSv (cxOf CX0 P w K mg base N qual (defScope st) f cdv A outer s H E).nox R pr (defBody st) body)
    (lb : ∀ ρ r ρ', body ρ = some (r, ρ') → ρ'.length = ρ.length) : FnP P w K mg base R (k + 1) f fd ps (fnF N.length rs body) := by
  have key : ∀ {as : List Sl} {r : Vl} {as' : List Sl}, fnF N.length rs body as = some (r, as') → ∃ fl ρ', body (prepP rs as ++ List.replicate (N.length - rs.length) .un) = some (fl, ρ') ∧ as' = finP rs (prepP rs as) ρ' ∧ ((fl = .rt r) ∨ (fl = .nx ∧ r = .fz .non)) := by
    intro as r as' q
    unfold fnF at q
    rw [Option.bind_eq_some_iff] at q
    obtain ⟨⟨fl, ρ'⟩, h1, q⟩ := q
    cases fl with
    | rt v => cases q; exact ⟨_, _, h1, rfl, .inl rfl⟩
    | nx => cases q; exact ⟨_, _, h1, rfl, .inr ⟨rfl, rfl⟩⟩
    | bk => cases q
    | ct => cases q
  have flen : ∀ (as : List Sl) (r : Vl) (as' : List Sl), as.length = ps.length → fnF N.length rs body as = some (r, as') → as'.length = as.length := fun as r as' la q => by
    obtain ⟨fl, ρ', h1, rfl, _⟩ := key q
    have l1 := lb _ _ _ h1
    rw [List.length_append, prepP_len, List.length_replicate] at l1
    rw [finP_len _ _ _ (by rw [prepP_len]; omega) (by rw [prepP_len]; omega), prepP_len]
  have q : FnOk P w K mg base CX0 (k + 1) f fd ps (spF R ps.length (fnF N.length rs body)) := F.ok S (fun vs H Q E h => h.1) fun cdv A outer s H vs Q E hr h => by
    obtain ⟨lv, F0, as, r, as', la, ⟨e0, hb0⟩, hf, kk⟩ := h
    obtain ⟨fl, ρ', h1, rfl, hfl⟩ := key hf
    refine ⟨_, (hb cdv A outer s H E hr).ps, ?_⟩
    have B0 := hb0.enter
    obtain ⟨F1, _, B1⟩ := Bag.prep (vs := []) (m := rs) (as := as) (B := []) (us := vs.map some) (by rw [List.length_map]; omega) (by rw [List.nil_append]; exact B0)
    rw [List.nil_append] at B1
    have lP : (prepP rs as).length = ps.length := by rw [prepP_len]; exact la
    have B2 := B1.more (C := (tmpsP (prepP rs as)).zip (vs.map some)) fun p hp => by
      obtain ⟨i, hi⟩ := List.getElem?_of_mem hp
      obtain ⟨s, o⟩ := p
      obtain ⟨gs, go⟩ := List.getElem?_zip_eq_some.mp hi
      unfold tmpsP at gs
      rw [List.getElem?_map, Option.map_eq_some_iff] at gs
      obtain ⟨t, ht, rfl⟩ := gs
      cases t with
      | fz p =>
        refine ⟨rfl, ?_⟩
        exact B1.mem (p := (.fz p, o)) (List.mem_of_getElem? (i := i) (List.getElem?_zip_eq_some.mpr ⟨ht, go⟩))
      | _ => exact ⟨rfl, trivial⟩
    have B3 := B2.more (C := (List.replicate (N.length - rs.length) Sl.un).zip (List.replicate (N.length - vs.length) none)) fun p hp => by
      obtain ⟨s, o⟩ := p
      obtain ⟨h1, h2⟩ := List.of_mem_zip hp
      obtain rfl := List.eq_of_mem_replicate h1
      exact ⟨rfl, trivial⟩
    have B4 : Bag R ⟨H, F0, lentOf (as.zip (vs.map some))⟩ F1 H ((prepP rs as ++ List.replicate (N.length - rs.length) Sl.un).zip (L2.start N vs) ++ (tmpsP (prepP rs as)).zip (vs.map some)) := by
      unfold L2.start
      rw [List.zip_append (by rw [List.length_map]; omega)]
      refine B3.perm ?_
      rw [List.append_assoc, List.append_assoc]
      exact (List.Perm.refl _).append List.perm_append_comm
    refine ⟨_, F1, _, _, fl, ρ', by unfold L2.start; simp only [List.length_append, List.length_replicate, List.length_map]; omega, B4, h1, ?_⟩
    have l1 := lb _ _ _ h1
    rw [List.length_append, lP, List.length_replicate] at l1
    have fin : ∀ (σ' : L2.St) (H' F' : Hp) (x : V) (v : Vl), σ'.length = (L2.start N vs).length → (∀ i ∈ pr, σ'[i]? = (L2.start N vs)[i]?) →
        Bag R ⟨H, F0, lentOf (as.zip (vs.map some))⟩ F' H' (ρ'.zip σ' ++ (tmpsP (prepP rs as)).zip (vs.map some) ++ [(v.sl, some x)]) →
        Bag R ⟨H, F0, lentOf (as.zip (vs.map some))⟩ F' H' ((finP rs (prepP rs as) ρ').zip (vs.map some) ++ [(v.sl, some x)]) := by
      intro σ' H' F' x v ls hp' B
      have lfin : (finP rs (prepP rs as) ρ').length = ps.length := by rw [finP_len _ _ _ (by omega) (by omega), lP]
      have lst : (L2.start N vs).length = N.length := by unfold L2.start; simp only [List.length_append, List.length_replicate, List.length_map]; omega
      have B5 : Bag R ⟨H, F0, lentOf (as.zip (vs.map some))⟩ F' H' ((ρ'.zip σ').take ps.length ++ [(v.sl, some x)]) := B.sublist (by
        rw [List.append_assoc]
        exact (List.take_sublist _ _).append (List.sublist_append_right _ _))
      have lt : ((ρ'.zip σ').take ps.length).length = ps.length := by rw [List.length_take, List.length_zip]; omega
      have lz : ((finP rs (prepP rs as) ρ').zip (vs.map some)).length = ps.length := by rw [List.length_zip, List.length_map]; omega
      refine B5.repl fun i p g => ?_
      by_cases hi : i < ps.length
      · rw [List.getElem?_append_left (by omega)] at g
        obtain ⟨s, o⟩ := p
        obtain ⟨gs, go⟩ := List.getElem?_zip_eq_some.mp g
        rw [List.getElem?_map, List.getElem?_eq_getElem (by omega : i < vs.length)] at go
        obtain rfl : some (vs[i]'(by omega)) = o := by simpa using go
        rcases finP_get (by omega) (by omega) gs with ⟨hm, hs⟩ | ⟨hm, hs⟩
        · refine .inr ?_
          rcases prepP_masked hm hs with rfl | ⟨p, rfl⟩
          · exact ⟨rfl, trivial⟩
          · refine ⟨rfl, ?_⟩
            have := B.mem (p := (.fz p, some (vs[i]'(by omega)))) (List.mem_append_left _ (List.mem_append_right _ (List.mem_of_getElem? (i := i) (List.getElem?_zip_eq_some.mpr ⟨?_, ?_⟩))))
            · exact this
            · unfold tmpsP
              rw [List.getElem?_map, hs]; rfl
            · rw [List.getElem?_map, List.getElem?_eq_getElem (by omega : i < vs.length)]; rfl
        · refine .inl ?_
          rw [List.getElem?_append_left (by omega), List.getElem?_take_of_lt hi]
          refine List.getElem?_zip_eq_some.mpr ⟨hs, ?_⟩
          rw [hp' i (hp i hm)]
          unfold L2.start
          rw [List.getElem?_append_left (by rw [List.length_map]; omega), List.getElem?_map, List.getElem?_eq_getElem (by omega : i < vs.length)]; rfl
      · refine .inl ?_
        rw [List.getElem?_append_right (by omega), lz] at g
        rw [List.getElem?_append_right (by omega), lt]
        exact g
    intro σ' H' F' ls hp'
    rcases hfl with rfl | ⟨rfl, rfl⟩
    · intro x B
      exact kk x H' F' (fin σ' H' F' x r ls hp' B)
    · intro B
      exact kk .non H' F' (fin σ' H' F' .non (.fz .non) ls hp' (B.push (s := .fz .non) ⟨_, rfl, .non⟩ rfl))
  exact ⟨flen, q⟩
end
end PL
set_option Elab.async false
set_option linter.all false
set_option maxRecDepth 100000
set_option maxHeartbeats 4000000
/-! PLm: attributes written, methods, globals. -/
namespace PL
open PySem PySem.Spec PyProof.Rows L2

def tgFld (K : PySem.W.Frag) (ta : TE) (f : Str) : TG := fun v σ H Q => ta σ H fun x H1 => ∃ (a C dx : Addr) (fs : List (Str × V)), x = .ref a ∧ H1 a = some (.ins C dx fs) ∧ Cls K C ∧ NoAttr K C f ∧ fs.length < 1000 ∧ Q σ (upd H1 a (.ins C dx (putF f v fs)))
theorem pg_fld {X : Cx} {o : Expr} {f : Str} {p : Pos} {ta : TE} (h : PE X o ta) : PG X (.Attribute o f p) (tgFld X.K ta f) := by
  refine ⟨fun pins s σ H v u Q I r q => ?_⟩
  rw [assign]
  refine wpAny_bind (wpAny_holding (wpAny_mono (h.run pins s σ H _ I q) (fun ov s1 z => ?_) fun e s1 z => z))
  obtain ⟨w, H1, I1, rw, a, C, dx, fs, rfl, g, cl, na, l, k⟩ := z
  cases rw
  refine wpAny_bind (wpAny_standAt ?_)
  refine wpAny_bind (wpAny_holding ?_)
  refine setattr_ok I1 g cl na l r fun s2 I2 => ?_
  exact wpAny_release ⟨_, _, I2, k⟩
theorem putF_new {f : Str} {v : V} : ∀ {fs : List (Str × V)}, (∀ q ∈ fs, q.1 ≠ f) → putF f v fs = fs ++ [(f, v)]
  | [], _ => by simp [putF]
  | q :: fs, h => by
    have h1 : q.1 ≠ f := h q List.mem_cons_self
    obtain ⟨a, b⟩ := q
    have h2 : putF f v fs = fs ++ [(f, v)] := putF_new fun q hq => h q (List.mem_cons_of_mem _ hq)
    show putF f v ((a, b) :: fs) = _
    unfold putF
    rw [if_neg h1, h2]; rfl
/-- targets that may write the heap -/
def TGw (R : RE) (ws : List Nat) (g : PGF) : TG := fun v σ H Q => ∃ (e : En) (F : Hp) (ρ : List Sl) (tm : Bg) (p : PV) (ρ' : List Sl), ρ.length = σ.length ∧ Bag R e F H (ρ.zip σ ++ tm) ∧ Rp R F p v ∧ g p ρ = some ρ' ∧
  ∀ σ' H', σ'.length = σ.length → (∀ j, j ∉ ws → σ'[j]? = σ[j]?) → Bag R e F H' (ρ'.zip σ' ++ tm) → Q σ' H'
def TGsw (R : RE) (ws : List Nat) (g : PGFs) : TGs := fun vs σ H Q => ∃ (e : En) (F : Hp) (ρ : List Sl) (tm : Bg) (ps : List PV) (ρ' : List Sl), ρ.length = σ.length ∧ Bag R e F H (ρ.zip σ ++ tm) ∧ RpL R F ps vs ∧ g ps ρ = some ρ' ∧
  ∀ σ' H', σ'.length = σ.length → (∀ j, j ∉ ws → σ'[j]? = σ[j]?) → Bag R e F H' (ρ'.zip σ' ++ tm) → Q σ' H'
structure Gw (X : Cx) (R : RE) (t : Expr) (ws : List Nat) (g : PGF) : Prop where
  len : ∀ p ρ ρ', g p ρ = some ρ' → ρ'.length = ρ.length
  pg : PG X t (TGw R ws g)
structure Gsw (X : Cx) (R : RE) (t : List Expr) (ws : List Nat) (g : PGFs) : Prop where
  len : ∀ p ρ ρ', g p ρ = some ρ' → ρ'.length = ρ.length
  pgs : PGs X t (TGsw R ws g)
/-- self.f at place i, its n-th field -/
def gFld (i c n : Nat) : PGF := fun p ρ => match ρ[i]? with
  | some (.obj c' zs) => if c' = c ∧ zs.length = n then some (ρ.set i (.obj c (zs ++ [p]))) else none
  | _ => none
section
variable {X : Cx} {R : RE} {pos : Pos}
theorem Gv.w {t : Expr} {ws : List Nat} {g : PGF} (h : Gv X R t ws g) : Gw X R t ws g := ⟨h.len, pg_mono h.pg fun v σ H Q ⟨e, F, ρ, tm, p, ρ', hl, hB, hr, hg, k⟩ => ⟨e, F, ρ, tm, p, ρ', hl, hB, hr, hg, fun σ' l' k' B' => k σ' H l' k' B'⟩⟩
theorem gw_fld {i c n : Nat} {x f : Str} {px : Pos} (hK : R.K = X.K) (hN : X.N[i]? = some x) (hv : Vis X.env.scope x) (hf : (R.fl c)[n]? = some f) (nd : (R.fl c).Nodup) (cl : Cls R.K (R.cl c)) (na : NoAttr R.K (R.cl c) f) (hn : n < 1000) (hd : (x == ("__debug__" : Str)) = false := by decide) (hcd : (x == ("__classdict__" : Str)) = false := by decide) :
    Gw X R (.Attribute (.Name x px) f pos) [] (gFld i c n) := by
  have key : ∀ {p : PV} {ρ ρ' : List Sl}, gFld i c n p ρ = some ρ' → ∃ zs, ρ[i]? = some (.obj c zs) ∧ zs.length = n ∧ ρ' = ρ.set i (.obj c (zs ++ [p])) := by
    intro p ρ ρ' h
    unfold gFld at h
    split at h
    · rename_i c' zs g
      split at h
      · rename_i cc
        cases h
        obtain ⟨rfl, l⟩ := cc
        exact ⟨zs, g, l, rfl⟩
      · cases h
    · cases h
  refine ⟨fun p ρ ρ' h => ?_, pg_mono (pg_fld (pe_var hN hv hd hcd)) fun v σ H Q h => ?_⟩
  · obtain ⟨zs, _, _, rfl⟩ := key h
    rw [List.length_set]
  · obtain ⟨e, F, ρ, tm, p, ρ', hl, hB, hr, hg, k⟩ := h
    obtain ⟨zs, g, lz, rfl⟩ := key hg
    obtain ⟨o, h2, h3, h4⟩ := slot_some hB hl g
    obtain ⟨a, dx, vs, rfl, h5, h6, l6, h7⟩ := h4
    have lv := h7.length
    have ln : n < (R.fl c).length := (List.getElem?_eq_some_iff.mp hf).1
    rw [hK] at cl na
    refine ⟨_, h2, a, R.cl c, dx, _, rfl, h6, cl, na, by rw [List.length_zip, List.length_take]; omega, ?_⟩
    have e1 : putF f v (((R.fl c).take zs.length).zip vs) = ((R.fl c).take (zs ++ [p]).length).zip (vs ++ [v]) := by
      rw [putF_new, List.length_append, List.length_singleton, lz, List.take_add_one, hf, Option.toList_some, List.zip_append (by rw [List.length_take]; omega)]
      · rfl
      · rintro ⟨q1, q2⟩ hq rfl
        have hq1 := (List.of_mem_zip hq).1
        rw [lz] at hq1
        obtain ⟨j, hj⟩ := List.getElem?_of_mem hq1
        have hjn : j < n := by
          have := (List.getElem?_eq_some_iff.mp hj).1
          rw [List.length_take] at this; omega
        rw [List.getElem?_take_of_lt hjn] at hj
        have e2 := (List.getElem?_inj (by omega) nd).mp (hj.trans hf.symm)
        omega
    rw [e1]
    have hB2 := hB.write (i := i) (s := .obj c zs) (t := .obj c (zs ++ [p])) (o := .ins (R.cl c) dx (((R.fl c).take (zs ++ [p]).length).zip (vs ++ [v]))) (app_get' (zip_get g h2)) rfl rfl ⟨a, dx, vs ++ [v], rfl, h5, upd_same, by rw [List.length_append, List.length_singleton]; omega, h7.append (.cons hr .nil)⟩
    refine k σ _ rfl (fun _ _ => rfl) ?_
    rw [zip_set h2, ← app_set (zip_lt (List.getElem?_eq_some_iff.mp g).1 hl)]
    exact hB2
theorem gsw_nil : Gsw X R [] [] gsNil := ⟨gsv_nil (X := X) (R := R) |>.len, pgs_mono (gsv_nil (X := X) (R := R)).pgs fun v σ H Q ⟨e, F, ρ, tm, p, ρ', hl, hB, hr, hg, k⟩ => ⟨e, F, ρ, tm, p, ρ', hl, hB, hr, hg, fun σ' l' k' B' => k σ' H l' k' B'⟩⟩
theorem gsw_cons {t : Expr} {ts : List Expr} {ws vs : List Nat} {g : PGF} {gs : PGFs} (h1 : Gw X R t ws g) (h2 : Gsw X R ts vs gs) (hs : (assignEach (t :: ts) X.env).map (·.2) = assign t X.env :: (assignEach ts X.env).map (·.2) := by rfl) : Gsw X R (t :: ts) (ws ++ vs) (gsCons g gs) := by
  have key : ∀ {ps : List PV} {ρ ρ' : List Sl}, gsCons g gs ps ρ = some ρ' → ∃ p r ρ1, ps = p :: r ∧ g p ρ = some ρ1 ∧ gs r ρ1 = some ρ' := by
    intro ps ρ ρ' h
    unfold gsCons at h
    split at h
    · rename_i p r
      rw [Option.bind_eq_some_iff] at h
      obtain ⟨ρ1, q1, q2⟩ := h
      exact ⟨p, r, ρ1, rfl, q1, q2⟩
    · cases h
  refine ⟨fun p ρ ρ' h => ?_, pgs_mono (pgs_cons h1.pg h2.pgs hs) fun v σ H Q h => ?_⟩
  · obtain ⟨p, r, ρ1, _, q1, q2⟩ := key h
    exact (h2.len _ _ _ q2).trans (h1.len _ _ _ q1)
  · obtain ⟨e, F, ρ, tm, ps, ρ', hl, hB, hr, hg, k⟩ := h
    obtain ⟨p, r, ρ1, rfl, q1, q2⟩ := key hg
    cases hr with
    | @cons _ _ v1 vr r1 r2 =>
      refine ⟨v1, vr, rfl, e, F, ρ, tm, p, ρ1, hl, hB, r1, q1, fun σ1 H1 l1 k1 B1 => ?_⟩
      refine ⟨e, F, ρ1, tm, r, ρ', by have := h1.len _ _ _ q1; omega, B1, r2, q2, fun σ2 H2 l2 k2 B2 => k σ2 H2 (l2.trans l1) (fun j hj => ?_) B2⟩
      rw [List.mem_append, not_or] at hj
      rw [k2 j hj.2, k1 j hj.1]
theorem gw_tup {es : List Expr} {ws : List Nat} {gs : PGFs} {k n : Nat} (hK : R.K = X.K) (hc : X.calm = true) (h : Gsw X R es ws gs) (ln : ∀ ps ρ ρ', gs ps ρ = some ρ' → ps.length = n) (hn : (assignEach es X.env).length = n := by rfl) (hst : (assignEach es X.env).findIdx? (·.1) = none := by rfl) :
    Gw X R (.Tuple es k pos) ws (gTp gs) := by
  refine ⟨fun p ρ ρ' q => ?_, pg_mono (pg_tup hc h.pgs hn hst) fun v σ H Q q => ?_⟩
  · unfold gTp at q
    split at q
    · exact h.len _ _ _ q
    · cases q
  · obtain ⟨e, F, ρ, tm, p, ρ', hl, hB, hr, hg, k⟩ := q
    unfold gTp at hg
    split at hg
    · rename_i ps
      cases hr with
      | tup q r =>
        have l := ln _ _ _ hg
        rw [hK] at q
        exact ⟨_, _, rfl, (hB.sub.sqT q.sq), by rw [← r.length]; exact l, e, F, ρ, tm, ps, ρ', hl, hB, r, hg, k⟩
    · cases hg
end
section
variable {X : Cx} {R : RE} {pr : List Nat} {a t : Expr} {fa : PF} {g : PGF} {ws : List Nat} {pos : Pos}
theorem sv_asgW (h : Ev X R a fa) (hg : Gw X R t ws g) (hp : ∀ i ∈ pr, i ∉ ws) (hs : swapsWithSole [t] a pos.line X.env = pure false := by rfl) (hw : swappedStores [t] a X.env = pure none := by rfl)
    (h1 : (assignEach [t] X.env).map (·.2) = [assign t X.env] := by rfl) : Sv X R pr (.Assign [t] a pos) (sAsg fa g) := by
  refine ⟨fun ρ r ρ' q => ?_, ps_mono (ps_asg h.pe hg.pg hs hw h1) fun D σ H q => ?_⟩
  · obtain ⟨r, ρ1, p, q1, q2, q3, _⟩ := sAsg_some q
    exact (hg.len _ _ _ q3).trans (h.len _ _ _ q1)
  · obtain ⟨e, F, ρ, tm, fl, ρ', hl, hB, hf, k⟩ := q
    obtain ⟨r, ρ1, p, q1, q2, q3, rfl⟩ := sAsg_some hf
    have l1 := h.len _ _ _ q1
    refine ⟨e, F, ρ, tm, r, ρ1, hl, hB, q1, fun x H1 F1 B1 _ => ?_⟩
    obtain ⟨F2, s2, B2, rp⟩ := B1.val q2
    exact ⟨e, F2, ρ1, tm, p, ρ', by omega, B2, rp, q3, fun σ' H' l' k' B' => k σ' H' F2 l' (fun i hi => k' i (hp i hi)) B'⟩
/-- a global whose value is the same in every heap -/
theorem ev_glob {x : Str} {v : V} {u : Value} {p : PV} (hg : Gl X x) (hm : X.mg x = some u) (rv : L2.RelV v u) (r : ∀ F, Rp R F p v) (hd : (x == ("__debug__" : Str)) = false := by decide) : Ev X R (.Name x pos) (eC p) := ev_c (pe_glob hg hm rv hd) r
end

/-! ### methods -/
/-- o.m(..) of an instance of class c -/
def eMeth (c : Nat) (f : FP) (fa : PF) (fs : PFs) : PF := fun ρ => (fa ρ).bind fun x => match x.1 with
  | .fz (.ins c' zs) => if c' = c then (fs x.2).bind fun y => (f (.fz (.ins c zs) :: y.1.map tmpOf)).bind fun z => match z.2 with
    | _ :: ss => some (z.1.sl, putB y.1 ss y.2)
    | [] => none
    else none
  | _ => none
section
variable {X : Cx} {R : RE} {o a : Expr} {es : List Expr} {fa : PF} {fs : PFs} {pos apos : Pos} {k : Nat} {f : Addr} {fd : FuncData} {ps : List Str} {fn : FP} {m : Str} {c : Nat}
theorem eMeth_some {ρ ρ' : List Sl} {r : Sl} (q : eMeth c fn fa fs ρ = some (r, ρ')) : ∃ zs ρ1 rs ρ2 v s0 ss, fa ρ = some (.fz (.ins c zs), ρ1) ∧ fs ρ1 = some (rs, ρ2) ∧ fn (.fz (.ins c zs) :: rs.map tmpOf) = some (v, s0 :: ss) ∧ r = v.sl ∧ ρ' = putB rs ss ρ2 := by
  unfold eMeth at q
  rw [Option.bind_eq_some_iff] at q
  obtain ⟨⟨r1, ρ1⟩, h1, q⟩ := q
  split at q
  · rename_i c' zs e1
    dsimp only at e1 q
    subst e1
    split at q
    · rename_i ec
      subst ec
      rw [Option.bind_eq_some_iff] at q
      obtain ⟨⟨rs, ρ2⟩, h2, q⟩ := q
      rw [Option.bind_eq_some_iff] at q
      obtain ⟨⟨v, ss⟩, h3, q⟩ := q
      split at q
      · rename_i s0 ss' e2
        dsimp only at e2
        subst e2
        cases q
        exact ⟨zs, ρ1, rs, ρ2, v, s0, ss', h1, h2, h3, rfl, rfl⟩
      · cases q
    · cases q
  · cases q
theorem Rp.ins_of {R : RE} {F : Hp} {c : Nat} {xs : List PV} {y : V} (h : Rp R F (.ins c xs) y) : ∃ (ad dx : Addr) (vs : List V), y = .ref ad ∧ F ad = some (.ins (R.cl c) dx ((R.fl c).zip vs)) ∧ vs.length = (R.fl c).length ∧ RpL R F xs vs := by
  cases h with
  | ins q l r => exact ⟨_, _, _, rfl, q, l, r⟩
theorem lookup_mem {m : Str} {w : V} : ∀ {fs : List Str} {vs : List V}, List.lookup m (fs.zip vs) = some w → m ∈ fs
  | [], _, h => by cases h
  | _ :: _, [], h => by cases h
  | a :: fs, b :: vs, h => by
    rw [List.zip_cons_cons, List.lookup_cons] at h
    split at h
    · rename_i e
      rw [eq_of_beq e]; exact List.mem_cons_self
    · exact List.mem_cons_of_mem _ (lookup_mem h)
/-- what both ways of calling need -/
theorem meth_core {e : En} {F1 H1 : Hp} {ρ1 : List Sl} {σ : L2.St} {tm : Bg} {rs ss : List Sl} {xs : List V} {v : Vl} {n : Nat} {Q : VK} {E : XK} {zs : List PV} {s0 : Sl} {y : V} (lf : ∀ as r as', as.length = n → fn as = some (r, as') → as'.length = as.length) (hn : rs.length + 1 = n) (hl : ρ1.length = σ.length)
    (B1 : Bag R e F1 H1 (ρ1.zip σ ++ tm ++ (rs.map tmpOf).zip (xs.map some))) (ry : Rp R F1 (.ins c zs) y) (k1 : Paired (fun r x => PkOk r σ x) rs xs) (h2 : fn (.fz (.ins c zs) :: rs.map tmpOf) = some (v, s0 :: ss))
    (kk : ∀ z H' F', Bag R e F' H' ((putB rs ss ρ1).zip σ ++ tm ++ [(v.sl, some z)]) → Q z H') : spF R n fn (y :: xs) H1 Q E := by
  have lx := Paired.len k1
  have e1 : (Sl.fz (.ins c zs) :: rs.map tmpOf).zip ((y :: xs).map some) = (.fz (.ins c zs), some y) :: (rs.map tmpOf).zip (xs.map some) := rfl
  have B2 : Bag R e F1 H1 (ρ1.zip σ ++ tm ++ ((Sl.fz (.ins c zs) :: rs.map tmpOf).zip ((y :: xs).map some))) := by
    rw [e1]
    refine (B1.push_fz ry).perm ?_
    rw [List.append_assoc (ρ1.zip σ ++ tm)]
    exact (List.Perm.refl _).append (List.perm_append_singleton _ _)
  refine ⟨by rw [List.length_cons]; omega, F1, .fz (.ins c zs) :: rs.map tmpOf, v, s0 :: ss, by simpa using hn, ⟨_, B2.sublist (List.sublist_append_right _ _)⟩, h2, fun z H' F' B' => kk z H' F' ?_⟩
  have ls := lf _ _ _ (by simpa using hn) h2
  simp only [List.length_cons, List.length_map] at ls
  have B3 := B2.leave B'
  have e2 : (s0 :: ss).zip ((y :: xs).map some) = (s0, some y) :: ss.zip (xs.map some) := rfl
  rw [e2, List.cons_append] at B3
  exact Bag.home (C := [(v.sl, some z)]) (by omega) hl k1 B3.drop_mid
theorem ev_meth (hK : R.K = X.K) (ho : Ev X R o fa) (cl : Cls X.K (R.cl c)) (hm : Meth X.K (R.cl c) m f) (nf : m ∉ R.fl c) (hf : FnP X.prog X.w X.K X.mg X.base R k f fd ps fn) (hr : Room k X.A) (hb : Binds X.K fd ps []) (ha : Av X R (a :: es) fs) (hn : (a :: es).length + 1 = ps.length := by rfl)
    (he : starEach (a :: es) X.env = (false, eval a X.env) :: starEach es X.env := by rfl) (hpl : (backTo pos (starEach es X.env)).any (·.1) = false := by rfl)
    {pl : Sem Bool} (hev : eval (.Call (.Attribute o m apos) (a :: es) [] pos) X.env = (do
                              let ov ← eval o X.env
                              standAt apos.atName
                              let __x ← holding [ov] (getMethod ov m pl)
                              match __x with
                                | (f, first) =>
                                  callWith pos f first (backTo pos (starEach (a :: es) X.env))
                                    (backToKw pos (keywordEach [] X.env))) := by rfl) :
    Ev X R (.Call (.Attribute o m apos) (a :: es) [] pos) (eMeth c fn fa fs) := by
  refine ⟨fun ρ r ρ' q => ?_, pe_mono (pe_meth ho.pe cl hm hf.ok hr hb .nil pass0 ha.pa he hpl hev) fun σ H Q h => ?_⟩
  · obtain ⟨zs, ρ1, rs, ρ2, v, s0, ss, h1, h2, h3, _, rfl⟩ := eMeth_some q
    rw [putB_len]; exact (ha.len _ _ _ h2).trans (ho.len _ _ _ h1)
  · obtain ⟨e, F, ρ, tm, r, ρ', hl, hB, hf', kk⟩ := h
    obtain ⟨zs, ρ1, rs, ρ2, v, s0, ss, h1, h2, h3, rfl, rfl⟩ := eMeth_some hf'
    refine ⟨e, F, ρ, tm, _, ρ1, hl, hB, h1, fun x H1 F1 B1 k1 => ?_⟩
    have l1 := ho.len _ _ _ h1
    obtain ⟨y, ey, q⟩ := B1.all _ _ _ app_last
    cases ey
    obtain ⟨ad, dx, vs, ey, q1, l, r⟩ := q.ins_of
    · subst ey
      refine ⟨ad, dx, _, rfl, B1.sub _ _ q1, ?_, e, F1, ρ1, tm ++ [(.fz (.ins c zs), some (.ref ad))], rs, ρ2, by omega, by rw [← List.append_assoc]; exact B1, h2, fun xs H2 F2 B2 k2 => ?_⟩
      · cases hh : List.lookup m ((R.fl c).zip vs) with
        | none => rfl
        | some w => exact absurd (lookup_mem hh) nf
      · show spF R ps.length fn (.ref ad :: (xs ++ [])) H2 Q E0
        rw [List.append_nil]
        have ry : Rp R F2 (.ins c zs) (.ref ad) := by
          obtain ⟨z, ez, rz⟩ := B2.mem (p := (.fz (.ins c zs), some (.ref ad))) (by simp)
          cases ez
          exact rz
        have B3 : Bag R e F2 H2 (ρ2.zip σ ++ tm ++ (rs.map tmpOf).zip (xs.map some)) := B2.sublist (by
          rw [← List.append_assoc (ρ2.zip σ)]
          exact (List.sublist_append_left _ _).append (List.Sublist.refl _))
        exact meth_core hf.len (by have := ha.cnt _ _ _ h2; omega) (by have := ha.len _ _ _ h2; omega) B3 ry k2 h3 fun z H' F' B' => kk z H' F' (by rw [tmp_sl]; exact B') (sl_pk v σ z)
end
end PL
set_option Elab.async false
set_option linter.all false
set_option maxRecDepth 100000
set_option maxHeartbeats 4000000
/-! PLn: the rules as the printed texts use them. -/
namespace PL
open PySem PySem.Spec PyProof.Rows L2
section
variable {X : Cx} {R : RE} {pos : Pos}
theorem vPk (i : Nat) {x : Str} (hN : X.N[i]? = some x := by rfl) (hv : Vis X.env.scope x := by first | exact .inl rfl | exact .inr (.inl rfl) | exact .inr (.inr rfl)) (hd : (x == ("__debug__" : Str)) = false := by decide) (hcd : (x == ("__classdict__" : Str)) = false := by decide) : Ev X R (.Name x pos) (ePk i) := ev_pk hN hv hd hcd
theorem vVar (i : Nat) {x : Str} (hN : X.N[i]? = some x := by rfl) (hv : Vis X.env.scope x := by first | exact .inl rfl | exact .inr (.inl rfl) | exact .inr (.inr rfl)) (hd : (x == ("__debug__" : Str)) = false := by decide) (hcd : (x == ("__classdict__" : Str)) = false := by decide) : Ev X R (.Name x pos) (eVar i) := ev_var hN hv hd hcd
theorem vMv (i : Nat) {x : Str} (hN : X.N[i]? = some x := by rfl) (hv : Vis X.env.scope x := by first | exact .inl rfl | exact .inr (.inl rfl) | exact .inr (.inr rfl)) (hd : (x == ("__debug__" : Str)) = false := by decide) (hcd : (x == ("__classdict__" : Str)) = false := by decide) : Ev X R (.Name x pos) (eMv i) := ev_mv hN hv hd hcd
theorem vBor (i : Nat) {x : Str} (hN : X.N[i]? = some x := by rfl) (hv : Vis X.env.scope x := by first | exact .inl rfl | exact .inr (.inl rfl) | exact .inr (.inr rfl)) (hd : (x == ("__debug__" : Str)) = false := by decide) (hcd : (x == ("__classdict__" : Str)) = false := by decide) : Ev X R (.Name x pos) (eBor i) := ev_bor hN hv hd hcd
/-- a built-in type by its name -/
theorem vTy (t : Ty) {x : Str} (hm : X.mg x = none) (hv : bootBuiltins x = some (.type t.nm)) (hg : Gl X x := by rfl) (hne : x ≠ ("__name__" : Str) := by decide) (hd : (x == ("__debug__" : Str)) = false := by decide) : Ev X R (.Name x pos) (eC (.ty t)) := ev_c (pe_bltn (v := .ty t.nm) hg hm hv rfl hne hd) fun F => .ty t
theorem ev_gc {x : Str} {v : V} {p : PV} (hg : Gl X x) (h : ∃ u, X.mg x = some u ∧ L2.RelV v u) (r : ∀ F, Rp R F p v) (hd : (x == ("__debug__" : Str)) = false := by decide) : Ev X R (.Name x pos) (eC p) := by
  obtain ⟨u, hm, rv⟩ := h
  exact ev_glob hg hm rv r hd
theorem hu64 {k : Nat} {A : Around} (h : Room k A) : A.units + 64 < cLine := by have := h.un; omega
theorem hu65 {k : Nat} {A : Around} (h : Room k A) : A.units + 65 < cLine := by have := h.un; omega
theorem prs_of {rs : List Bool} {pr : List Nat} (h : (List.range rs.length).all (fun i => rs[i]? != some false || pr.contains i) = true) : ∀ i : Nat, rs[i]? = some false → i ∈ pr := fun i q => by
  have hi : i < rs.length := (List.getElem?_eq_some_iff.mp q).1
  have := List.all_eq_true.mp h i (List.mem_range.mpr hi)
  rw [q] at this
  simpa using this
def sh0 : Shared := {}
theorem room_deep {k : Nat} (e : Env) (h : k ≤ 20) : Room k (callerA.deeper e) := by
  have h1 : callerA.depth + 1 + 65 < recursionLimit := by decide
  have h2 : callerA.units + 3 + 520 < cLine := by decide
  refine ⟨rfl, ?_, ?_⟩
  · show callerA.depth + 1 + 3 * k + 5 < recursionLimit
    omega
  · show callerA.units + 3 + 16 * k + 200 < cLine
    omega
theorem fn_pl' {P : Program} {w : World} {K : PySem.W.Frag} {mg : Str → Option Value} {base : Heap} {R : RE} {x qual : Str} {st : Stmt} {f : Addr} {fd : FuncData} {N ps : List Str} {k : Nat} {rs : List Bool} {body : PSF} {pr : List Nat} (F : Fun K x qual st f fd) (S : FnScope N ps (defScope st)) (hn : rs.length = ps.length) (hN : ps.length ≤ N.length)
    (hp : (List.range rs.length).all (fun i => rs[i]? != some false || pr.contains i) = true)
    (hb : ∀ (cdv : Value) (A : Around) (outer : List Env) (s : Shared) (H : Hp) (E : XK), Room k (A.deeper (envOfC qual (defScope st) s.heap.objs.size f cdv)) → SSv (cxOf CX0 P w K mg base N qual (defScope st) f cdv A outer s H E).nox R pr (defBody st) body)
    (hA : k ≤ 20 := by decide) : FnP P w K mg base R (k + 1) f fd ps (fnF N.length rs body) :=
  fn_pl F S hn hN (prs_of hp) hb (hb .none callerA [] sh0 (fun _ => none) (fun _ _ _ => False) (room_deep _ hA)).len
end
end PL
set_option Elab.async false
set_option linter.all false
set_option maxRecDepth 100000
set_option maxHeartbeats 4000000
/-! PLo: min, max, sum, all, any of tuples. -/
namespace PL
open PySem PySem.Spec PyProof.Rows L2

theorem CallOk.or {R : RE} {op op' : List PV → Option Vl} {rd rd' : List V → Hp → VK → Prop} (h : CallOk R op rd) (h' : CallOk R op' rd') : CallOk R (fun ps => match op ps with | some r => some r | none => op' ps) (fun xs H Q => rd xs H Q ∨ rd' xs H Q) := by
  intro e F H B ps xs r Q hB hp ho k
  dsimp only at ho
  cases e1 : op ps with
  | some r' =>
    rw [e1] at ho
    cases ho
    exact .inl (h e F H B ps xs r Q hB hp e1 k)
  | none =>
    rw [e1] at ho
    exact .inr (h' e F H B ps xs r Q hB hp ho k)
theorem vals_ints_get : ∀ {ns : List Int} {its : List Value} {i : Nat} {v : Value}, Vals (ns.map V.int) its → its[i]? = some v → ∃ t, v = .int (ns.getD i 0) t
  | [], _, i, v, .nil, g => by simp at g
  | n :: ns, _, 0, v, .cons r _, g => by
    simp at g
    subst g
    obtain ⟨t, rfl⟩ := r
    exact ⟨t, by simp⟩
  | n :: ns, _, i + 1, v, .cons _ rs, g => by
    obtain ⟨t, e⟩ := vals_ints_get rs (i := i) (by simpa using g)
    exact ⟨t, by simpa using e⟩
theorem vals_len : ∀ {xs : List V} {its : List Value}, Vals xs its → its.length = xs.length
  | _, _, .nil => rfl
  | _, _, .cons _ rs => by rw [List.length_cons, List.length_cons, vals_len rs]
section
variable {X : Cx}
/-- a walk over a tuple that ends in a value -/
theorem tup_walk {pins : List (Addr × Obj)} {σ : L2.St} {H : Hp} {s : Shared} {a : Addr} {ns : List Int} {A : Around} {E : Value → Shared → Prop} {Q : Value → Shared → Prop} (I : L2.Inv X pins σ H s) (hq : SqT X.K H a (ns.map V.int)) (hh : A.handled = none)
    (k : ∀ (its : List Value), Vals (ns.map V.int) its → Walks X.prog X.w A s.heap.objs.size [s.heap.objs.size, a] [s.heap.objs.size] ns.length (fun i v => its[i]? = some v) (fun i h => h.IsTupleIter s.heap.objs.size a i ∧ h.IsTuple a its.toArray) →
      (∀ (h : Heap), (fun i (h : Heap) => h.IsTupleIter s.heap.objs.size a i ∧ h.IsTuple a its.toArray) 0 h → True) →
      (∀ b ∈ [s.heap.objs.size, a], b < (s.heap.push { cls := Value.type "tuple_iterator", data := Data.fields #[Value.ref a, Value.int 0 0] }).objs.size) →
      (s.heap.push { cls := Value.type "tuple_iterator", data := Data.fields #[Value.ref a, Value.int 0 0] }).IsTupleIter s.heap.objs.size a 0 ∧ (s.heap.push { cls := Value.type "tuple_iterator", data := Data.fields #[Value.ref a, Value.int 0 0] }).IsTuple a its.toArray →
      (∀ (h' : Heap) (tk : Nat), (∀ (b : Addr) (o : Obj), b ∉ [s.heap.objs.size] → (s.heap.push { cls := Value.type "tuple_iterator", data := Data.fields #[Value.ref a, Value.int 0 0] }).get? b = some o → h'.get? b = some o) → L2.Inv X pins σ H { heap := h', gens := s.gens, drawn := s.drawn, toks := tk, os := s.os }) →
      Q (.ref s.heap.objs.size) { heap := s.heap.push { cls := Value.type "tuple_iterator", data := Data.fields #[Value.ref a, Value.int 0 0] }, gens := s.gens, drawn := s.drawn, toks := s.toks, os := s.os }) :
    wpAny (model X.prog X.w) A (pyIter (.ref a)) Q E s := by
  obtain ⟨its, rv, p, hz⟩ := I.tuple hq
  have p' : s.heap.IsTuple a its.toArray := p
  refine wpAny_pyIter_tuple p' ?_
  have hlt : a < s.heap.objs.size := by
    obtain ⟨m, hm, _⟩ := p'
    exact Heap.lt_size hm
  have hl := vals_len rv
  rw [List.length_map] at hl
  refine k its rv (by
    have w := Walks.tuple (prog := X.prog) (w := X.w) hh s.heap.objs.size a (Nat.ne_of_lt hlt) its.toArray
    have es : its.toArray.size = ns.length := by simp [hl]
    rw [es] at w
    simpa using w) (fun _ _ => trivial) (fun b hb => ?_) ⟨⟨_, Heap.get?_push_size _ rfl, rfl, rfl⟩, ?_⟩ fun h' tk hk => ?_
  · rw [Heap.size_push]
    simp at hb
    rcases hb with rfl | rfl
    · exact Nat.lt_succ_self _
    · exact Nat.lt_succ_of_lt hlt
  · obtain ⟨m, hm, c⟩ := p'
    exact ⟨m, Heap.get?_push_of_some _ hm, c⟩
  · refine I.kept fun b u hu => hk b u (fun z => ?_) (Heap.get?_push_of_some _ hu)
    simp at z
    subst z
    exact absurd (Heap.lt_size hu) (Nat.lt_irrefl _)
def rMinT (K : PySem.W.Frag) (vs : List V) (H : Hp) (Q : VK) : Prop := ∃ (a : Addr) (ns : List Int), vs = [V.ref a] ∧ SqT K H a (ns.map V.int) ∧ 0 < ns.length ∧ ∀ m, m ∈ ns → (∀ y, y ∈ ns → m ≤ y) → Q (.int m) H
def rMaxT (K : PySem.W.Frag) (vs : List V) (H : Hp) (Q : VK) : Prop := ∃ (a : Addr) (ns : List Int), vs = [V.ref a] ∧ SqT K H a (ns.map V.int) ∧ 0 < ns.length ∧ ∀ m, m ∈ ns → (∀ y, y ∈ ns → y ≤ m) → Q (.int m) H
theorem getD_all {ns : List Int} {P : Int → Prop} (h : ∀ j, j ≤ ns.length - 1 → P (ns.getD j 0)) : ∀ y ∈ ns, P y := fun y hy => by
  obtain ⟨j, hj, rfl⟩ := List.getElem_of_mem hy
  have := h j (by omega)
  rw [List.getD_eq_getElem?_getD, List.getElem?_eq_getElem hj] at this
  exact this
theorem getD_mem {ns : List Int} {j : Nat} (h : j < ns.length) : ns.getD j 0 ∈ ns := by
  rw [List.getD_eq_getElem?_getD, List.getElem?_eq_getElem h]
  exact List.getElem_mem h
theorem cr_minT (hc : X.calm = true) : CallR X (.builtin "min") (rMinT X.K) := by
  intro pins s σ H xs us Q I rv ⟨a, ns, e, hq, hn, k⟩
  subst e
  match us, rv with
  | [_], .cons r .nil =>
    cases r
    refine call_min_walk (tup_walk I hq (I.ok.hd hc) fun its ri w _ hfp hst hI => ?_)
    refine ⟨_, _, _, _, _, _, fun i j => decide (ns.getD i 0 < ns.getD j 0), rfl, w, hst, hfp, hn, CmpOf.ints_lt (fun i => ns.getD i 0) fun i v g => vals_ints_get ri g, fun v h' tk hv hk => ?_⟩
    obtain ⟨t, rfl⟩ := vals_ints_get ri hv
    obtain ⟨hle, hmin⟩ := argBest_lt (fun i => ns.getD i 0) (ns.length - 1)
    exact ⟨.int _, H, hI h' tk hk, ⟨t, rfl⟩, k _ (getD_mem (by omega)) (getD_all hmin)⟩
theorem cr_maxT (hc : X.calm = true) : CallR X (.builtin "max") (rMaxT X.K) := by
  intro pins s σ H xs us Q I rv ⟨a, ns, e, hq, hn, k⟩
  subst e
  match us, rv with
  | [_], .cons r .nil =>
    cases r
    refine call_max_walk (tup_walk I hq (I.ok.hd hc) fun its ri w _ hfp hst hI => ?_)
    refine ⟨_, _, _, _, _, _, fun i j => decide (ns.getD i 0 > ns.getD j 0), rfl, w, hst, hfp, hn, CmpOf.ints_gt (fun i => ns.getD i 0) fun i v g => vals_ints_get ri g, fun v h' tk hv hk => ?_⟩
    obtain ⟨t, rfl⟩ := vals_ints_get ri hv
    obtain ⟨hle, hmax⟩ := argBest_gt (fun i => ns.getD i 0) (ns.length - 1)
    exact ⟨.int _, H, hI h' tk hk, ⟨t, rfl⟩, k _ (getD_mem (by omega)) (getD_all (P := fun y => y ≤ ns.getD (argBest (fun i j => decide (ns.getD i 0 > ns.getD j 0)) (ns.length - 1)) 0) hmax)⟩
end
def clMin2 : List PV → Option Vl := fun ps => match clMin ps with
  | some r => some r
  | none => match ps with
    | [.tup xs] => (intsOf xs).bind fun ns => if ns.isEmpty then none else some (.fz (.int (minL ns)))
    | _ => none
def clMax2 : List PV → Option Vl := fun ps => match clMax ps with
  | some r => some r
  | none => match ps with
    | [.tup xs] => (intsOf xs).bind fun ns => if ns.isEmpty then none else some (.fz (.int (maxL ns)))
    | _ => none
theorem cok_min2 {R : RE} : CallOk R clMin2 (fun xs H Q => ((∃ i j, xs = [.int i, .int j] ∧ Q (.int (if j < i then j else i)) H) ∨ rMin R.K xs H Q) ∨ rMinT R.K xs H Q) := by
  refine cok_min.or (op' := fun ps => match ps with
    | [.tup xs] => (intsOf xs).bind fun ns => if ns.isEmpty then none else some (.fz (.int (minL ns)))
    | _ => none) ?_
  intro e F H B ps xs r Q hB hp ho k
  dsimp only at ho
  split at ho
  · rename_i zs
    rw [Option.bind_eq_some_iff] at ho
    obtain ⟨ns, h1, ho⟩ := ho
    split at ho
    · cases ho
    · rename_i c
      cases ho
      obtain ⟨x, rfl, q⟩ := hp.one
      obtain ⟨a, vs, rfl, h2, r1⟩ := q.tup hB.sub
      rw [intsOf_eq h1] at r1
      rw [r1.ints] at h2
      have hne : ns ≠ [] := fun z => by rw [z] at c; exact c rfl
      refine ⟨a, ns, rfl, h2, by cases ns with | nil => exact absurd rfl hne | cons _ _ => simp, fun m hm hle => ?_⟩
      have em : m = minL ns := by
        have h3 := minL_le hm
        have h4 := hle _ (minL_mem hne)
        omega
      rw [em]
      exact k _ H F (hB.push_fz (.int _))
  · cases ho
theorem cok_max2 {R : RE} : CallOk R clMax2 (fun xs H Q => ((∃ i j, xs = [.int i, .int j] ∧ Q (.int (if j > i then j else i)) H) ∨ rMax R.K xs H Q) ∨ rMaxT R.K xs H Q) := by
  refine cok_max.or (op' := fun ps => match ps with
    | [.tup xs] => (intsOf xs).bind fun ns => if ns.isEmpty then none else some (.fz (.int (maxL ns)))
    | _ => none) ?_
  intro e F H B ps xs r Q hB hp ho k
  dsimp only at ho
  split at ho
  · rename_i zs
    rw [Option.bind_eq_some_iff] at ho
    obtain ⟨ns, h1, ho⟩ := ho
    split at ho
    · cases ho
    · rename_i c
      cases ho
      obtain ⟨x, rfl, q⟩ := hp.one
      obtain ⟨a, vs, rfl, h2, r1⟩ := q.tup hB.sub
      rw [intsOf_eq h1] at r1
      rw [r1.ints] at h2
      have hne : ns ≠ [] := fun z => by rw [z] at c; exact c rfl
      refine ⟨a, ns, rfl, h2, by cases ns with | nil => exact absurd rfl hne | cons _ _ => simp, fun m hm hle => ?_⟩
      have em : m = maxL ns := by
        have h3 := maxL_ge hm
        have h4 := hle _ (maxL_mem hne)
        omega
      rw [em]
      exact k _ H F (hB.push_fz (.int _))
  · cases ho
end PL
set_option Elab.async false
set_option linter.all false
set_option maxRecDepth 100000
set_option maxHeartbeats 4000000
/-! PLp: what the laws' own draws give. -/
namespace PL
open PySem PySem.Spec PyProof.Rows L2
theorem datN_i (n : Nat) (i : Int) : datN n (.int i) = true := by cases n <;> rfl
theorem datN_n (n : Nat) : datN n .non = true := by cases n <;> rfl
theorem datN_b (n : Nat) (b : Bool) : datN n (.bl b) = true := by cases n <;> rfl
theorem datN_l (n : Nat) (xs : List PV) : datN (n + 1) (.lst xs) = datNs n xs := rfl
theorem datN_t (n : Nat) (xs : List PV) : datN (n + 1) (.tup xs) = datNs n xs := rfl
theorem datNs_nil (n : Nat) : datNs n [] = true := by cases n <;> rfl
theorem datNs_cons (n : Nat) (x : PV) (xs : List PV) : datNs n (x :: xs) = (datN n x && datNs n xs) := by rw [datNs]
theorem eqP_ii (i j : Int) : eqP (.int i) (.int j) = (i == j) := by rw [eqP]
theorem eqP_nn : eqP .non .non = true := by rw [eqP]
theorem eqP_bb (a b : Bool) : eqP (.bl a) (.bl b) = (a == b) := by rw [eqP]
theorem eqP_ll (a b : List PV) : eqP (.lst a) (.lst b) = eqPs a b := by rw [eqP]
theorem eqP_tt (a b : List PV) : eqP (.tup a) (.tup b) = eqPs a b := by rw [eqP]
theorem eqPs_nn : eqPs [] [] = true := by rw [eqPs]
theorem eqPs_cc (x y : PV) (xs ys : List PV) : eqPs (x :: xs) (y :: ys) = (eqP x y && eqPs xs ys) := by rw [eqPs]
theorem eqPs_nc (y : PV) (ys : List PV) : eqPs [] (y :: ys) = false := by rw [eqPs] <;> intros <;> simp_all
theorem eqPs_cn (y : PV) (ys : List PV) : eqPs (y :: ys) [] = false := by rw [eqPs] <;> intros <;> simp_all
theorem datNs_Ints' (n : Nat) : ∀ ns : List Int, datNs n (ns.map PV.int) = true
  | [] => datNs_nil n
  | i :: ns => by rw [List.map_cons, datNs_cons, datN_i, datNs_Ints' n ns]; rfl
theorem eqPs_Ints' : ∀ a b : List Int, eqPs (a.map PV.int) (b.map PV.int) = (a == b)
  | [], [] => by simp [eqPs_nn]
  | [], _ :: _ => by rw [List.map_nil, List.map_cons, eqPs_nc]; rfl
  | _ :: _, [] => by rw [List.map_nil, List.map_cons, eqPs_cn]; rfl
  | x :: a, y :: b => by rw [List.map_cons, List.map_cons, eqPs_cc, eqP_ii, eqPs_Ints' a b]; rfl
def F_draw0 : FP := fnF 5 [false, false] (sSeq (sIf (tAndF (tOf (eBin opEq (eBin opIx (ePk 0) (eC (.int 2))) (eC (.int 0)))) (tOf (eBin opLt (eBin opIx (ePk 0) (eC (.int 1))) (eNary clLen (aCons (eBin opIx (ePk 0) (eC (.int 0))) aNil))))) (sSeq (sSet 2 (eBin opIx (eBin opIx (ePk 0) (eC (.int 0))) (eBin opIx (ePk 0) (eC (.int 1))))) (sSeq (sSetIx 0 (eBin opAdd (eBin opIx (ePk 0) (eC (.int 1))) (eC (.int 1))) (eC (.int 1))) (sSeq (sSetIx 0 (eBin opMod (eNary clInt (aCons (eBin opAdd (eBin opAdd (eBin opMul (eBin opIx (ePk 0) (eC (.int 3))) (eC (.int 69621))) (ePk 2)) (eC (.int 29))) aNil)) (eC (.int 2147483629))) (eC (.int 3))) (sIf (tOf (eBin opGe (ePk 2) (eBin opPow (eC (.int 10)) (eC (.int 18))))) (sSetIx 0 (eVar 2) (eC (.int 2))) sNil)))) sNil) (sSeq (sIf (tOf (eBin opGt (eBin opIx (ePk 0) (eC (.int 2))) (eC (.int 0)))) (sSeq (sSet 3 (eBin opMod (eNary clInt (aCons (eBin opIx (ePk 0) (eC (.int 2))) aNil)) (ePk 1))) (sSeq (sSetIx 0 (eBin opFdiv (eBin opIx (ePk 0) (eC (.int 2))) (ePk 1)) (eC (.int 2))) (sRet (eVar 3)))) sNil) (sSeq (sSetIx 0 (eBin opAdd (eBin opIx (ePk 0) (eC (.int 4))) (eC (.int 1))) (eC (.int 4))) (sSeq (sSet 4 (eBin opMod (eNary clInt (aCons (eBin opMul (eNary clInt (aCons (eBin opAdd (eBin opIx (ePk 0) (eC (.int 3))) (eBin opMul (eC (.int 7919)) (eBin opIx (ePk 0) (eC (.int 4))))) aNil)) (eC (.int 48271))) aNil)) (eC (.int 2147483647)))) (sSeq (sSet 4 (eBin opMod (eNary clInt (aCons (eBin opMul (ePk 4) (eBin opAdd (eBin opFdiv (ePk 4) (eC (.int 1009))) (eC (.int 69621)))) aNil)) (eC (.int 2147483647)))) (sSeq (sSet 4 (eBin opMod (eNary clInt (aCons (eBin opMul (ePk 4) (eBin opAdd (eBin opFdiv (ePk 4) (eC (.int 2003))) (eC (.int 40692)))) aNil)) (eC (.int 2147483399)))) (sRet (eBin opMod (eNary clInt (aCons (eBin opFdiv (ePk 4) (eC (.int 16))) aNil)) (ePk 1)))))))))
def Ints (ns : List Int) : List PV := ns.map PV.int
theorem Ints_len (ns : List Int) : (Ints ns).length = ns.length := by unfold Ints; rw [List.length_map]
theorem Ints_get (ns : List Int) (i : Nat) : (Ints ns)[i]? = (ns[i]?).map .int := by unfold Ints; rw [List.getElem?_map]
theorem Ints_mem {ns : List Int} {p : PV} (h : p ∈ Ints ns) : ∃ c, c ∈ ns ∧ p = .int c := by
  obtain ⟨c, hc, e⟩ := List.mem_map.mp h
  exact ⟨c, hc, e.symm⟩
theorem Ints_cons (n : Int) (ns : List Int) : Ints (n :: ns) = .int n :: Ints ns := rfl
theorem datNs_Ints (n : Nat) (ns : List Int) : datNs n (Ints ns) = true := datNs_Ints' n ns
theorem eqPs_Ints (a b : List Int) : eqPs (Ints a) (Ints b) = (a == b) := eqPs_Ints' a b
theorem Ints_nil : Ints [] = [] := rfl
theorem Ints_app (a b : List Int) : Ints (a ++ b) = Ints a ++ Ints b := by unfold Ints; rw [List.map_append]
def hand (cells : List Int) (i rest mix cnt : Int) : Sl := .own [.lst (Ints cells), .int i, .int rest, .int mix, .int cnt]
theorem mulOk_r {i j : Int} (h : -(2 ^ 64) < j ∧ j < 2 ^ 64) : mulOk i j = true := by
  unfold mulOk
  simp only [Bool.or_eq_true, decide_eq_true_eq]
  exact .inl (.inr h)
theorem mulOk_l {i j : Int} (h : -(2 ^ 64) < i ∧ i < 2 ^ 64) : mulOk i j = true := by
  unfold mulOk
  simp only [Bool.or_eq_true, decide_eq_true_eq]
  exact .inl (.inl h)
theorem log2_small {j : Int} (h : 0 < j ∧ j < 2 ^ 64) : j.natAbs.log2 < 9000 := by
  have h1 : j.natAbs < 2 ^ 64 := by omega
  have := (Nat.log2_lt (n := j.natAbs) (by omega)).mpr h1
  omega
/-- a hand that may be drawn from -/
def Hd (s : Sl) : Prop := ∃ (cells : List Int) (i : Nat) (rest mix cnt : Int), s = hand cells i rest mix cnt ∧ i ≤ cells.length ∧ 0 ≤ rest ∧ (∀ c ∈ cells, 0 ≤ c)
/-- the part that takes a cell -/
def dA : PSF := (sIf (tAndF (tOf (eBin opEq (eBin opIx (ePk 0) (eC (.int 2))) (eC (.int 0)))) (tOf (eBin opLt (eBin opIx (ePk 0) (eC (.int 1))) (eNary clLen (aCons (eBin opIx (ePk 0) (eC (.int 0))) aNil))))) (sSeq (sSet 2 (eBin opIx (eBin opIx (ePk 0) (eC (.int 0))) (eBin opIx (ePk 0) (eC (.int 1))))) (sSeq (sSetIx 0 (eBin opAdd (eBin opIx (ePk 0) (eC (.int 1))) (eC (.int 1))) (eC (.int 1))) (sSeq (sSetIx 0 (eBin opMod (eNary clInt (aCons (eBin opAdd (eBin opAdd (eBin opMul (eBin opIx (ePk 0) (eC (.int 3))) (eC (.int 69621))) (ePk 2)) (eC (.int 29))) aNil)) (eC (.int 2147483629))) (eC (.int 3))) (sIf (tOf (eBin opGe (ePk 2) (eBin opPow (eC (.int 10)) (eC (.int 18))))) (sSetIx 0 (eVar 2) (eC (.int 2))) sNil)))) sNil)
def dB : PSF := (sIf (tOf (eBin opGt (eBin opIx (ePk 0) (eC (.int 2))) (eC (.int 0)))) (sSeq (sSet 3 (eBin opMod (eNary clInt (aCons (eBin opIx (ePk 0) (eC (.int 2))) aNil)) (ePk 1))) (sSeq (sSetIx 0 (eBin opFdiv (eBin opIx (ePk 0) (eC (.int 2))) (ePk 1)) (eC (.int 2))) (sRet (eVar 3)))) sNil)
def dC : PSF := (sSeq (sSetIx 0 (eBin opAdd (eBin opIx (ePk 0) (eC (.int 4))) (eC (.int 1))) (eC (.int 4))) (sSeq (sSet 4 (eBin opMod (eNary clInt (aCons (eBin opMul (eNary clInt (aCons (eBin opAdd (eBin opIx (ePk 0) (eC (.int 3))) (eBin opMul (eC (.int 7919)) (eBin opIx (ePk 0) (eC (.int 4))))) aNil)) (eC (.int 48271))) aNil)) (eC (.int 2147483647)))) (sSeq (sSet 4 (eBin opMod (eNary clInt (aCons (eBin opMul (ePk 4) (eBin opAdd (eBin opFdiv (ePk 4) (eC (.int 1009))) (eC (.int 69621)))) aNil)) (eC (.int 2147483647)))) (sSeq (sSet 4 (eBin opMod (eNary clInt (aCons (eBin opMul (ePk 4) (eBin opAdd (eBin opFdiv (ePk 4) (eC (.int 2003))) (eC (.int 40692)))) aNil)) (eC (.int 2147483399)))) (sRet (eBin opMod (eNary clInt (aCons (eBin opFdiv (ePk 4) (eC (.int 16))) aNil)) (ePk 1)))))))
theorem draw_abc : F_draw0 = fnF 5 [false, false] (sSeq dA (sSeq dB dC)) := rfl
theorem getA {cells : List Int} {i : Nat} {c : Int} (h : cells[i]? = some c) : (Ints cells)[i]? = some (.int c) := by
  unfold Ints
  rw [List.getElem?_map, h]; rfl
theorem ixN_nat {n i : Nat} (h : i < n) : L2.ixN n (i : Int) = some i := by
  unfold L2.ixN
  simp
  omega
theorem dA_no {cells : List Int} {i : Nat} {rest mix cnt lim : Int} (h : ¬ (rest = 0 ∧ i < cells.length)) : dA [hand cells i rest mix cnt, .fz (.int lim), .un, .un, .un] = some (.nx, [hand cells i rest mix cnt, .fz (.int lim), .un, .un, .un]) := by
  by_cases h1 : rest = 0
  · have h2 : ¬ i < cells.length := fun z => h ⟨h1, z⟩
    simp [dA, hand, Ints_len, Ints_get, fnF, prepP, finP, sNil, sSeq, sIf, sRet, sRetN, sExpr, sSet, sPar, sPar3, sAsg, sSetIx, sFor, gNm, gTp, gsNil, gsCons, eVar, ePk, eMv, eBor, eC, eBin, eNeg, eAndF, eOrF, eNotF, eIf, eChain, eTup, eLst, eNary, eCall, eMeth, eMake, eFld, eSl, oSome, oNone, aNil, aCons, tOf, tAndF, tOrF, tNotF, cont, conts, tmpOf, valOf, valsOf, toVl, Vl.sl, putB, iSeq, seqOf, iRange1, iRange2, iZip2, iZip3, iEnum, opAdd, opSub, opMul, opMod, opFdiv, opPow, opEq, opNe, opLt, opLe, opGt, opGe, opCmp, opIs, opIsNot, opIx, opSl, isNon, clLen, clAbs, clInt, clMax, clMin, clMax2, clMin2, clSum, clAll, clAny, clTuple, clList, clIsi, isTy, isAny, tyP, subTy, eAppend, eExtend, L2.atI, L2.ixN, datN_i, datN_n, datN_b, datN_l, datN_t, datNs_Ints, datNs_nil, eqP_ii, eqP_ll, eqP_tt, eqP_nn, eqP_bb, eqPs_Ints, eqPs_nn, eqPs_nc, eqPs_cn, lineN, h1]
    omega
  · simp [dA, hand, Ints_len, Ints_get, fnF, prepP, finP, sNil, sSeq, sIf, sRet, sRetN, sExpr, sSet, sPar, sPar3, sAsg, sSetIx, sFor, gNm, gTp, gsNil, gsCons, eVar, ePk, eMv, eBor, eC, eBin, eNeg, eAndF, eOrF, eNotF, eIf, eChain, eTup, eLst, eNary, eCall, eMeth, eMake, eFld, eSl, oSome, oNone, aNil, aCons, tOf, tAndF, tOrF, tNotF, cont, conts, tmpOf, valOf, valsOf, toVl, Vl.sl, putB, iSeq, seqOf, iRange1, iRange2, iZip2, iZip3, iEnum, opAdd, opSub, opMul, opMod, opFdiv, opPow, opEq, opNe, opLt, opLe, opGt, opGe, opCmp, opIs, opIsNot, opIx, opSl, isNon, clLen, clAbs, clInt, clMax, clMin, clMax2, clMin2, clSum, clAll, clAny, clTuple, clList, clIsi, isTy, isAny, tyP, subTy, eAppend, eExtend, L2.atI, L2.ixN, datN_i, datN_n, datN_b, datN_l, datN_t, datNs_Ints, datNs_nil, eqP_ii, eqP_ll, eqP_tt, eqP_nn, eqP_bb, eqPs_Ints, eqPs_nn, eqPs_nc, eqPs_cn, lineN, h1]
theorem dA_yes {cells : List Int} {i : Nat} {mix cnt lim c : Int} (h : cells[i]? = some c) : dA [hand cells i 0 mix cnt, .fz (.int lim), .un, .un, .un] = some (.nx, [hand cells (i + 1) (if 10 ^ 18 ≤ c then c else 0) ((mix * 69621 + c + 29) % 2147483629) cnt, .fz (.int lim), .fz (.int c), .un, .un]) := by
  obtain ⟨hi, rfl⟩ := List.getElem?_eq_some_iff.mp h
  have hm : mulOk mix 69621 = true := mulOk_r (by omega)
  have hn : (Ints cells).length = cells.length := by simp [Ints]
  by_cases hc : (1000000000000000000 : Int) ≤ cells[i]
  · simp [dA, hand, Ints_len, Ints_get, fnF, prepP, finP, sNil, sSeq, sIf, sRet, sRetN, sExpr, sSet, sPar, sPar3, sAsg, sSetIx, sFor, gNm, gTp, gsNil, gsCons, eVar, ePk, eMv, eBor, eC, eBin, eNeg, eAndF, eOrF, eNotF, eIf, eChain, eTup, eLst, eNary, eCall, eMeth, eMake, eFld, eSl, oSome, oNone, aNil, aCons, tOf, tAndF, tOrF, tNotF, cont, conts, tmpOf, valOf, valsOf, toVl, Vl.sl, putB, iSeq, seqOf, iRange1, iRange2, iZip2, iZip3, iEnum, opAdd, opSub, opMul, opMod, opFdiv, opPow, opEq, opNe, opLt, opLe, opGt, opGe, opCmp, opIs, opIsNot, opIx, opSl, isNon, clLen, clAbs, clInt, clMax, clMin, clMax2, clMin2, clSum, clAll, clAny, clTuple, clList, clIsi, isTy, isAny, tyP, subTy, eAppend, eExtend, L2.atI, L2.ixN, datN_i, datN_n, datN_b, datN_l, datN_t, datNs_Ints, datNs_nil, eqP_ii, eqP_ll, eqP_tt, eqP_nn, eqP_bb, eqPs_Ints, eqPs_nn, eqPs_nc, eqPs_cn, lineN, hi, hm, hc]
  · simp [dA, hand, Ints_len, Ints_get, fnF, prepP, finP, sNil, sSeq, sIf, sRet, sRetN, sExpr, sSet, sPar, sPar3, sAsg, sSetIx, sFor, gNm, gTp, gsNil, gsCons, eVar, ePk, eMv, eBor, eC, eBin, eNeg, eAndF, eOrF, eNotF, eIf, eChain, eTup, eLst, eNary, eCall, eMeth, eMake, eFld, eSl, oSome, oNone, aNil, aCons, tOf, tAndF, tOrF, tNotF, cont, conts, tmpOf, valOf, valsOf, toVl, Vl.sl, putB, iSeq, seqOf, iRange1, iRange2, iZip2, iZip3, iEnum, opAdd, opSub, opMul, opMod, opFdiv, opPow, opEq, opNe, opLt, opLe, opGt, opGe, opCmp, opIs, opIsNot, opIx, opSl, isNon, clLen, clAbs, clInt, clMax, clMin, clMax2, clMin2, clSum, clAll, clAny, clTuple, clList, clIsi, isTy, isAny, tyP, subTy, eAppend, eExtend, L2.atI, L2.ixN, datN_i, datN_n, datN_b, datN_l, datN_t, datNs_Ints, datNs_nil, eqP_ii, eqP_ll, eqP_tt, eqP_nn, eqP_bb, eqPs_Ints, eqPs_nn, eqPs_nc, eqPs_cn, lineN, hi, hm, hc]
theorem dB_no {cells : List Int} {i mix cnt lim : Int} {a b c : Sl} : dB [hand cells i 0 mix cnt, .fz (.int lim), a, b, c] = some (.nx, [hand cells i 0 mix cnt, .fz (.int lim), a, b, c]) := by
  simp [dB, hand, fnF, prepP, finP, sNil, sSeq, sIf, sRet, sRetN, sExpr, sSet, sPar, sPar3, sAsg, sSetIx, sFor, gNm, gTp, gsNil, gsCons, eVar, ePk, eMv, eBor, eC, eBin, eNeg, eAndF, eOrF, eNotF, eIf, eChain, eTup, eLst, eNary, eCall, eMeth, eMake, eFld, eSl, oSome, oNone, aNil, aCons, tOf, tAndF, tOrF, tNotF, cont, conts, tmpOf, valOf, valsOf, toVl, Vl.sl, putB, iSeq, seqOf, iRange1, iRange2, iZip2, iZip3, iEnum, opAdd, opSub, opMul, opMod, opFdiv, opPow, opEq, opNe, opLt, opLe, opGt, opGe, opCmp, opIs, opIsNot, opIx, opSl, isNon, clLen, clAbs, clInt, clMax, clMin, clMax2, clMin2, clSum, clAll, clAny, clTuple, clList, clIsi, isTy, isAny, tyP, subTy, eAppend, eExtend, L2.atI, L2.ixN, datN_i, datN_n, datN_b, datN_l, datN_t, datNs_Ints, datNs_nil, eqP_ii, eqP_ll, eqP_tt, eqP_nn, eqP_bb, eqPs_Ints, eqPs_nn, eqPs_nc, eqPs_cn, lineN]
theorem dB_yes {cells : List Int} {i rest mix cnt lim : Int} {a b c : Sl} (h : 0 < rest) (hl : 0 < lim ∧ lim < 2 ^ 64) : dB [hand cells i rest mix cnt, .fz (.int lim), a, b, c] = some (.rt (.fz (.int (rest % lim))), [hand cells i (rest / lim) mix cnt, .fz (.int lim), a, .fz (.int (rest % lim)), c]) := by
  have h2 := log2_small hl
  simp [dB, hand, fnF, prepP, finP, sNil, sSeq, sIf, sRet, sRetN, sExpr, sSet, sPar, sPar3, sAsg, sSetIx, sFor, gNm, gTp, gsNil, gsCons, eVar, ePk, eMv, eBor, eC, eBin, eNeg, eAndF, eOrF, eNotF, eIf, eChain, eTup, eLst, eNary, eCall, eMeth, eMake, eFld, eSl, oSome, oNone, aNil, aCons, tOf, tAndF, tOrF, tNotF, cont, conts, tmpOf, valOf, valsOf, toVl, Vl.sl, putB, iSeq, seqOf, iRange1, iRange2, iZip2, iZip3, iEnum, opAdd, opSub, opMul, opMod, opFdiv, opPow, opEq, opNe, opLt, opLe, opGt, opGe, opCmp, opIs, opIsNot, opIx, opSl, isNon, clLen, clAbs, clInt, clMax, clMin, clMax2, clMin2, clSum, clAll, clAny, clTuple, clList, clIsi, isTy, isAny, tyP, subTy, eAppend, eExtend, L2.atI, L2.ixN, datN_i, datN_n, datN_b, datN_l, datN_t, datNs_Ints, datNs_nil, eqP_ii, eqP_ll, eqP_tt, eqP_nn, eqP_bb, eqPs_Ints, eqPs_nn, eqPs_nc, eqPs_cn, lineN, h, hl, h2]
theorem dC_of {cells : List Int} {i mix cnt lim : Int} {a b c : Sl} (hl : 0 < lim ∧ lim < 2 ^ 64) : ∃ r x, dC [hand cells i 0 mix cnt, .fz (.int lim), a, b, c] = some (.rt (.fz (.int r)), [hand cells i 0 mix (cnt + 1), .fz (.int lim), a, b, x]) ∧ 0 ≤ r ∧ r < lim := by
  have h1 : mulOk 7919 (cnt + 1) = true := mulOk_l (by omega)
  have h2 : ∀ j : Int, mulOk j 48271 = true := fun j => mulOk_r (by omega)
  have h3 : ∀ j k : Int, mulOk (j % 2147483647) k = true := fun j k => mulOk_l (by omega)
  have g1 : Nat.log2 1009 < 9000 := by decide +kernel
  have g2 : Nat.log2 2003 < 9000 := by decide +kernel
  have g3 : Nat.log2 16 < 9000 := by decide +kernel
  refine ⟨_, _, by
    simp [dC, hand, fnF, prepP, finP, sNil, sSeq, sIf, sRet, sRetN, sExpr, sSet, sPar, sPar3, sAsg, sSetIx, sFor, gNm, gTp, gsNil, gsCons, eVar, ePk, eMv, eBor, eC, eBin, eNeg, eAndF, eOrF, eNotF, eIf, eChain, eTup, eLst, eNary, eCall, eMeth, eMake, eFld, eSl, oSome, oNone, aNil, aCons, tOf, tAndF, tOrF, tNotF, cont, conts, tmpOf, valOf, valsOf, toVl, Vl.sl, putB, iSeq, seqOf, iRange1, iRange2, iZip2, iZip3, iEnum, opAdd, opSub, opMul, opMod, opFdiv, opPow, opEq, opNe, opLt, opLe, opGt, opGe, opCmp, opIs, opIsNot, opIx, opSl, isNon, clLen, clAbs, clInt, clMax, clMin, clMax2, clMin2, clSum, clAll, clAny, clTuple, clList, clIsi, isTy, isAny, tyP, subTy, eAppend, eExtend, L2.atI, L2.ixN, datN_i, datN_n, datN_b, datN_l, datN_t, datNs_Ints, datNs_nil, eqP_ii, eqP_ll, eqP_tt, eqP_nn, eqP_bb, eqPs_Ints, eqPs_nn, eqPs_nc, eqPs_cn, lineN, h1, h2, h3, hl, g1, g2, g3]
    exact ⟨rfl, rfl⟩, ?_, ?_⟩
  · exact Int.emod_nonneg _ (by omega)
  · exact Int.emod_lt_of_pos _ (by omega)
theorem draw_spec {s : Sl} {lim : Int} (h : Hd s) (hl : 0 < lim ∧ lim < 2 ^ 64) : ∃ r s', F_draw0 [s, .fz (.int lim)] = some (.fz (.int r), [s', .fz (.int lim)]) ∧ 0 ≤ r ∧ r < lim ∧ Hd s' := by
  obtain ⟨cells, i, rest, mix, cnt, rfl, hi, hr, hc⟩ := h
  have key : ∀ (i : Nat) (rest mix cnt : Int) (a : Sl), i ≤ cells.length → 0 ≤ rest → dA [hand cells i rest mix cnt, .fz (.int lim), .un, .un, .un] = some (.nx, [hand cells i rest mix cnt, .fz (.int lim), a, .un, .un]) → True := fun _ _ _ _ _ _ _ _ => trivial
  obtain ⟨i', rest', mix', a, e1, hi', hr'⟩ : ∃ (i' : Nat) (rest' mix' : Int) (a : Sl), dA [hand cells i rest mix cnt, .fz (.int lim), .un, .un, .un] = some (.nx, [hand cells i' rest' mix' cnt, .fz (.int lim), a, .un, .un]) ∧ i' ≤ cells.length ∧ 0 ≤ rest' := by
    by_cases h1 : rest = 0 ∧ i < cells.length
    · obtain ⟨rfl, h2⟩ := h1
      have e := dA_yes (mix := mix) (cnt := cnt) (lim := lim) (List.getElem?_eq_getElem h2)
      refine ⟨i + 1, _, _, _, by rw [show ((i + 1 : Nat) : Int) = (i : Int) + 1 by omega]; exact e, h2, ?_⟩
      split
      · exact hc _ (List.getElem_mem h2)
      · omega
    · exact ⟨i, rest, mix, .un, dA_no h1, hi, hr⟩
  rw [draw_abc]
  by_cases h2 : 0 < rest'
  · have e2 := dB_yes (cells := cells) (i := i') (mix := mix') (cnt := cnt) (a := a) (b := .un) (c := .un) h2 hl
    refine ⟨rest' % lim, hand cells i' (rest' / lim) mix' cnt, ?_, Int.emod_nonneg _ (by omega), Int.emod_lt_of_pos _ (by omega), cells, i', _, _, _, rfl, hi', Int.ediv_nonneg hr' (by omega), hc⟩
    simp [fnF, prepP, sSeq, e1, e2, finP]
  · have h3 : rest' = 0 := by omega
    subst h3
    obtain ⟨r, x, e3, h4, h5⟩ := dC_of (cells := cells) (i := i') (mix := mix') (cnt := cnt) (a := a) (b := .un) (c := .un) hl
    refine ⟨r, hand cells i' 0 mix' (cnt + 1), ?_, h4, h5, cells, i', _, _, _, rfl, hi', Int.le_refl _, hc⟩
    simp [fnF, prepP, sSeq, e1, dB_no, e3, finP]
end PL
set_option Elab.async false
set_option linter.all false
set_option maxRecDepth 100000
set_option maxHeartbeats 4000000
/-! PLq: loops and list comprehensions worked out. -/
namespace PL
open PySem PySem.Spec PyProof.Rows L2

theorem backS_get {ρ : List Sl} {i : Nat} : ∀ {vs : List Nat} {ss : List Sl}, i ∉ vs → (backS ρ vs ss)[i]? = ρ[i]?
  | [], ss, _ => by unfold backS; rfl
  | v :: vs, [], _ => by unfold backS; rfl
  | v :: vs, s :: ss, h => by
    rw [List.mem_cons, not_or] at h
    unfold backS
    rw [List.getElem?_set_ne (fun z => h.1 z.symm), backS_get h.2]
theorem backS_back {ρ : List Sl} : ∀ {vs : List Nat} {ss ts : List Sl}, ss.length = vs.length → ts.length = vs.length → vs.Nodup → backS (backS ρ vs ss) vs ts = backS ρ vs ts
  | [], [], [], _, _, _ => by unfold backS; rfl
  | [], _ :: _, _, h, _, _ => by cases h
  | [], _, _ :: _, _, h, _ => by cases h
  | _ :: _, [], _, h, _, _ => by cases h
  | _ :: _, _, [], _, h, _ => by cases h
  | v :: vs, s :: ss, t :: ts, h1, h2, nd => by
    rw [List.nodup_cons] at nd
    have set_back : ∀ (us : List Nat) (xs : List Sl) (τ : List Sl), v ∉ us → backS (τ.set v s) us xs = (backS τ us xs).set v s := by
      intro us
      induction us with
      | nil => intro xs τ _; unfold backS; rfl
      | cons u us ih =>
        intro xs τ hu
        rw [List.mem_cons, not_or] at hu
        cases xs with
        | nil => unfold backS; rfl
        | cons x xs =>
          unfold backS
          rw [ih xs τ hu.2, List.set_comm _ _ (fun z => hu.1 z)]
    show (backS ((backS ρ vs ss).set v s) vs ts).set v t = (backS ρ vs ts).set v t
    rw [set_back vs ts _ nd.1, List.set_set, backS_back (by simpa using h1) (by simpa using h2) nd.2]
theorem keepS_back {ρ : List Sl} : ∀ {vs : List Nat}, (∀ v ∈ vs, v < ρ.length) → backS ρ vs (keepS ρ vs) = ρ
  | [], _ => by unfold backS; rfl
  | v :: vs, h => by
    have hv := h v List.mem_cons_self
    have ih := keepS_back (ρ := ρ) (vs := vs) fun u hu => h u (List.mem_cons_of_mem _ hu)
    show (backS ρ vs (keepS ρ vs)).set v ((ρ[v]?).getD .un) = ρ
    rw [ih, List.getElem?_eq_getElem hv]
    exact List.set_getElem_self hv
theorem keepS_len {ρ : List Sl} {vs : List Nat} : (keepS ρ vs).length = vs.length := by unfold keepS; rw [List.length_map]
theorem wipe_back {ρ : List Sl} : ∀ {vs : List Nat}, wipeS ρ vs = backS ρ vs (vs.map fun _ => .un)
  | [] => by unfold wipeS backS; rfl
  | v :: vs => by
    show (wipeS ρ vs).set v .un = (backS ρ vs (vs.map fun _ => .un)).set v .un
    rw [wipe_back]
theorem wipe_backS {ρ : List Sl} {vs : List Nat} {ss : List Sl} (h : ss.length = vs.length) (nd : vs.Nodup) : wipeS (backS ρ vs ss) vs = wipeS ρ vs := by
  rw [wipe_back, wipe_back, backS_back h (by rw [List.length_map]) nd]
/-- a comprehension that changes nothing -/
theorem lcP_pure {vs : List Nat} {g : PGF} {tt : PT'} {fe : PF} {ρ0 : List Sl} (tb : PV → Bool) (h : PV → PV) (nd : vs.Nodup) : ∀ (items : List PV) (us : List Sl), us.length = vs.length →
    (∀ p ∈ items, ∃ ρ1 ys, g p (wipeS ρ0 vs) = some ρ1 ∧ ys.length = vs.length ∧ tt ρ1 = some (tb p, backS ρ0 vs ys) ∧ (tb p = true → ∃ x zs, zs.length = vs.length ∧ fe (backS ρ0 vs ys) = some (x, backS ρ0 vs zs) ∧ valOf x = some (h p))) →
    ∃ ws, ws.length = vs.length ∧ lcP vs g tt fe items (backS ρ0 vs us) = some ((items.filter tb).map h, backS ρ0 vs ws)
  | [], us, lu, _ => ⟨us, lu, rfl⟩
  | p :: ps, us, lu, st => by
    obtain ⟨ρ1, ys, h1, h2, h3, h4⟩ := st p List.mem_cons_self
    have st' := fun q hq => st q (List.mem_cons_of_mem _ hq)
    unfold lcP
    rw [wipe_backS lu nd, h1, Option.bind_some, h3, Option.bind_some]
    cases hb : tb p with
    | true =>
      obtain ⟨x, zs, h5, h6, h7⟩ := h4 hb
      obtain ⟨ws, lw, e⟩ := lcP_pure tb h nd ps zs h5 st'
      refine ⟨ws, lw, ?_⟩
      rw [if_pos rfl, h6, Option.bind_some]
      dsimp only
      rw [h7, Option.bind_some, e, List.filter_cons_of_pos hb]
      rfl
    | false =>
      obtain ⟨ws, lw, e⟩ := lcP_pure tb h nd ps ys h2 st'
      refine ⟨ws, lw, ?_⟩
      rw [if_neg (by simp), e, List.filter_cons_of_neg (by rw [hb]; simp)]
theorem eLc_if {vs : List Nat} {w : PIF} {g : PGF} {tt : PT'} {fe : PF} {items : List PV} {rs ρ ρ0 : List Sl} (tb : PV → Bool) (h : PV → PV) (hw : w ρ = some (items, rs, ρ0)) (hrs : putB rs (rs.map tmpOf) ρ0 = ρ0) (nd : vs.Nodup) (hr : ∀ v ∈ vs, v < ρ0.length)
    (st : ∀ p ∈ items, ∃ ρ1 ys, g p (wipeS ρ0 vs) = some ρ1 ∧ ys.length = vs.length ∧ tt ρ1 = some (tb p, backS ρ0 vs ys) ∧ (tb p = true → ∃ x zs, zs.length = vs.length ∧ fe (backS ρ0 vs ys) = some (x, backS ρ0 vs zs) ∧ valOf x = some (h p))) :
    eLc w vs g tt fe ρ = some (.own ((items.filter tb).map h), ρ0) := by
  obtain ⟨ws, lw, e⟩ := lcP_pure (ρ0 := ρ0) tb h nd items (keepS ρ0 vs) keepS_len st
  rw [keepS_back hr] at e
  unfold eLc
  rw [hw, Option.bind_some]
  dsimp only
  rw [e]
  show some (_, _) = some (_, _)
  rw [backS_back lw keepS_len nd, keepS_back hr, hrs]
theorem eLc_map {vs : List Nat} {w : PIF} {g : PGF} {fe : PF} {items : List PV} {rs ρ ρ0 : List Sl} (h : PV → PV) (hw : w ρ = some (items, rs, ρ0)) (hrs : putB rs (rs.map tmpOf) ρ0 = ρ0) (nd : vs.Nodup) (hr : ∀ v ∈ vs, v < ρ0.length)
    (st : ∀ p ∈ items, ∃ ys x zs, g p (wipeS ρ0 vs) = some (backS ρ0 vs ys) ∧ ys.length = vs.length ∧ zs.length = vs.length ∧ fe (backS ρ0 vs ys) = some (x, backS ρ0 vs zs) ∧ valOf x = some (h p)) :
    eLc w vs g tTrue fe ρ = some (.own (items.map h), ρ0) := by
  have := eLc_if (tt := tTrue) (fun _ => true) h hw hrs nd hr fun p hp => by
    obtain ⟨ys, x, zs, h1, h2, h3, h4, h5⟩ := st p hp
    exact ⟨_, ys, h1, h2, rfl, fun _ => ⟨x, zs, h3, h4, h5⟩⟩
  rw [this, List.filter_eq_self.mpr (fun _ _ => rfl)]
/-- a comprehension that hands a state on -/
theorem lcP_ex {vs : List Nat} {g : PGF} {fe : PF} {I : List Sl → Prop} {P : PV → PV → Prop} : ∀ (items : List PV) (ρ : List Sl), I ρ →
    (∀ p ∈ items, ∀ ρ, I ρ → ∃ ρ1 ρ2 x q, g p (wipeS ρ vs) = some ρ1 ∧ fe ρ1 = some (x, ρ2) ∧ valOf x = some q ∧ P p q ∧ I ρ2) →
    ∃ qs ρ', lcP vs g tTrue fe items ρ = some (qs, ρ') ∧ I ρ' ∧ qs.length = items.length ∧ ∀ (j : Nat) (p q : PV), items[j]? = some p → qs[j]? = some q → P p q
  | [], ρ, h, _ => ⟨[], ρ, rfl, h, rfl, fun j p q h1 _ => by simp at h1⟩
  | p :: ps, ρ, h, st => by
    obtain ⟨ρ1, ρ2, x, q, h1, h2, h3, h4, h5⟩ := st p List.mem_cons_self ρ h
    obtain ⟨qs, ρ', e, h6, h7, h8⟩ := lcP_ex ps ρ2 h5 fun q hq => st q (List.mem_cons_of_mem _ hq)
    refine ⟨q :: qs, ρ', ?_, h6, by rw [List.length_cons, List.length_cons, h7], fun j a b g1 g2 => ?_⟩
    · unfold lcP
      rw [h1, Option.bind_some]
      rw [show tTrue ρ1 = some (true, ρ1) from rfl, Option.bind_some]
      dsimp only
      rw [if_pos rfl, h2, Option.bind_some]
      dsimp only
      rw [h3, Option.bind_some, e]; rfl
    · cases j with
      | zero => simp at g1 g2; subst g1 g2; exact h4
      | succ j => exact h8 j a b (by simpa using g1) (by simpa using g2)
theorem eLc_ex {vs : List Nat} {w : PIF} {g : PGF} {fe : PF} {items : List PV} {rs ρ ρ0 : List Sl} {I : List Sl → Prop} {P : PV → PV → Prop} (hw : w ρ = some (items, rs, ρ0)) (h0 : I ρ0)
    (st : ∀ p ∈ items, ∀ ρ, I ρ → ∃ ρ1 ρ2 x q, g p (wipeS ρ vs) = some ρ1 ∧ fe ρ1 = some (x, ρ2) ∧ valOf x = some q ∧ P p q ∧ I ρ2) :
    ∃ qs ρ', eLc w vs g tTrue fe ρ = some (.own qs, putB rs (rs.map tmpOf) (backS ρ' vs (keepS ρ0 vs))) ∧ I ρ' ∧ qs.length = items.length ∧ ∀ (j : Nat) (p q : PV), items[j]? = some p → qs[j]? = some q → P p q := by
  obtain ⟨qs, ρ', e, h⟩ := lcP_ex items ρ0 h0 st
  refine ⟨qs, ρ', ?_, h⟩
  unfold eLc
  rw [hw, Option.bind_some]
  dsimp only
  rw [e]; rfl
/-- a loop that runs through -/
theorem forP_ex {g : PGF} {body : PSF} {I : List Sl → Nat → Prop} : ∀ (items : List PV) (k : Nat) (ρ : List Sl), I ρ k →
    (∀ (j : Nat) (p : PV) (ρ : List Sl), items[j]? = some p → I ρ (k + j) → ∃ ρ1 ρ2, g p ρ = some ρ1 ∧ (body ρ1 = some (.nx, ρ2) ∨ body ρ1 = some (.ct, ρ2)) ∧ I ρ2 (k + j + 1)) →
    ∃ ρ', forP g body items ρ = some (.nx, ρ') ∧ I ρ' (k + items.length)
  | [], k, ρ, h, _ => ⟨ρ, rfl, h⟩
  | p :: ps, k, ρ, h, st => by
    obtain ⟨ρ1, ρ2, h1, h2, h3⟩ := st 0 p ρ rfl h
    obtain ⟨ρ', e, h4⟩ := forP_ex ps (k + 1) ρ2 h3 fun j q ρ hq hI => by
      have := st (j + 1) q ρ (by simpa using hq) (by rw [show k + (j + 1) = k + 1 + j by omega]; exact hI)
      rw [show k + (j + 1) + 1 = k + 1 + j + 1 by omega] at this
      exact this
    refine ⟨ρ', ?_, by rw [List.length_cons, show k + (ps.length + 1) = k + 1 + ps.length by omega]; exact h4⟩
    unfold forP
    rw [h1, Option.bind_some]
    rcases h2 with h2 | h2
    · rw [h2, Option.bind_some]; exact e
    · rw [h2, Option.bind_some]; exact e
end PL
set_option Elab.async false
set_option linter.all false
set_option maxRecDepth 100000
set_option maxHeartbeats 4000000
/-! PLr: the laws' own hands; short names for what is worked out often. -/
namespace PL
open PySem
theorem cutP_map {α β : Type} (f : α → β) (xs : List α) (lo hi : Option Int) : cutP (xs.map f) lo hi = (cutP xs lo hi).map f := by
  unfold cutP
  rw [List.length_map, List.map_take, List.map_drop]
theorem cutP_Ints (xs : List Int) (lo hi : Option Int) : cutP (Ints xs) lo hi = Ints (cutP xs lo hi) := cutP_map _ _ _ _
def F_hand0_l1 : PF := eLc (iSeq (eSl (ePk 0) oNone (oSome (eC (.int 63))))) [2] (gNm 2) tTrue (eNary clAbs (aCons (eNary clInt (aCons (ePk 2) aNil)) aNil))
def F_hand0 : FP := fnF 3 [false] (sSeq (sSet 1 F_hand0_l1) (sRet (eLst (aCons (eVar 1) (aCons (eC (.int 0)) (aCons (eC (.int 0)) (aCons (eBin opAdd (eC (.int 83)) (eBin opMul (eC (.int 7)) (eNary clLen (aCons (ePk 1) aNil)))) (aCons (eC (.int 0)) aNil))))))))
def absI (i : Int) : Int := (i.natAbs : Int)
theorem hand_spec (ns : List Int) : ∃ v, F_hand0 [.fz (.scr (Ints ns))] = some (v, [.fz (.scr (Ints ns))]) ∧ Hd v.sl := by
  have e : F_hand0_l1 [.fz (.scr (Ints ns)), .un, .un] = some (.own ((Ints (cutP ns none (some 63))).map fun p => match p with | .int i => .int (absI i) | _ => .non), [.fz (.scr (Ints ns)), .un, .un]) := by
    refine eLc_map (items := Ints (cutP ns none (some 63))) (rs := [.own (Ints (cutP ns none (some 63)))]) _ (by simp [fnF, prepP, finP, sNil, sSeq, sIf, sRet, sRetN, sExpr, sSet, sPar, sPar3, sAsg, sSetIx, sFor, gNm, gTp, gsNil, gsCons, eVar, ePk, eMv, eBor, eC, eBin, eNeg, eAndF, eOrF, eNotF, eIf, eChain, eTup, eLst, eNary, eCall, eMeth, eMake, eFld, eSl, oSome, oNone, aNil, aCons, tOf, tAndF, tOrF, tNotF, cont, conts, tmpOf, valOf, valsOf, toVl, Vl.sl, putB, iSeq, seqOf, iRange1, iRange2, iZip2, iZip3, iEnum, opAdd, opSub, opMul, opMod, opFdiv, opPow, opEq, opNe, opLt, opLe, opGt, opGe, opCmp, opIs, opIsNot, opIx, opSl, isNon, clLen, clAbs, clInt, clMax, clMin, clMax2, clMin2, clSum, clAll, clAny, clTuple, clList, clIsi, isTy, isAny, tyP, subTy, eAppend, eExtend, L2.atI, L2.ixN, datN_i, datN_n, datN_b, datN_l, datN_t, datNs_Ints, datNs_nil, eqP_ii, eqP_ll, eqP_tt, eqP_nn, eqP_bb, eqPs_Ints, eqPs_nn, eqPs_nc, eqPs_cn, lineN, cutP_Ints]) (by simp [fnF, prepP, finP, sNil, sSeq, sIf, sRet, sRetN, sExpr, sSet, sPar, sPar3, sAsg, sSetIx, sFor, gNm, gTp, gsNil, gsCons, eVar, ePk, eMv, eBor, eC, eBin, eNeg, eAndF, eOrF, eNotF, eIf, eChain, eTup, eLst, eNary, eCall, eMeth, eMake, eFld, eSl, oSome, oNone, aNil, aCons, tOf, tAndF, tOrF, tNotF, cont, conts, tmpOf, valOf, valsOf, toVl, Vl.sl, putB, iSeq, seqOf, iRange1, iRange2, iZip2, iZip3, iEnum, opAdd, opSub, opMul, opMod, opFdiv, opPow, opEq, opNe, opLt, opLe, opGt, opGe, opCmp, opIs, opIsNot, opIx, opSl, isNon, clLen, clAbs, clInt, clMax, clMin, clMax2, clMin2, clSum, clAll, clAny, clTuple, clList, clIsi, isTy, isAny, tyP, subTy, eAppend, eExtend, L2.atI, L2.ixN, datN_i, datN_n, datN_b, datN_l, datN_t, datNs_Ints, datNs_nil, eqP_ii, eqP_ll, eqP_tt, eqP_nn, eqP_bb, eqPs_Ints, eqPs_nn, eqPs_nc, eqPs_cn, lineN]) (by decide) (by simp) fun q hq => ?_
    obtain ⟨c, hc, rfl⟩ := Ints_mem hq
    refine ⟨[.fz (.int c)], .fz (.int (absI c)), [.fz (.int c)], ?_⟩
    simp [fnF, prepP, finP, sNil, sSeq, sIf, sRet, sRetN, sExpr, sSet, sPar, sPar3, sAsg, sSetIx, sFor, gNm, gTp, gsNil, gsCons, eVar, ePk, eMv, eBor, eC, eBin, eNeg, eAndF, eOrF, eNotF, eIf, eChain, eTup, eLst, eNary, eCall, eMeth, eMake, eFld, eSl, oSome, oNone, aNil, aCons, tOf, tAndF, tOrF, tNotF, cont, conts, tmpOf, valOf, valsOf, toVl, Vl.sl, putB, iSeq, seqOf, iRange1, iRange2, iZip2, iZip3, iEnum, opAdd, opSub, opMul, opMod, opFdiv, opPow, opEq, opNe, opLt, opLe, opGt, opGe, opCmp, opIs, opIsNot, opIx, opSl, isNon, clLen, clAbs, clInt, clMax, clMin, clMax2, clMin2, clSum, clAll, clAny, clTuple, clList, clIsi, isTy, isAny, tyP, subTy, eAppend, eExtend, L2.atI, L2.ixN, datN_i, datN_n, datN_b, datN_l, datN_t, datNs_Ints, datNs_nil, eqP_ii, eqP_ll, eqP_tt, eqP_nn, eqP_bb, eqPs_Ints, eqPs_nn, eqPs_nc, eqPs_cn, lineN, wipeS, backS, absI]
    split <;> omega
  have e2 : ((Ints (cutP ns none (some 63))).map fun p => match p with | .int i => .int (absI i) | _ => .non) = Ints ((cutP ns none (some 63)).map absI) := by
    unfold Ints
    rw [List.map_map, List.map_map]
    rfl
  rw [e2] at e
  have hp : ∀ c ∈ (cutP ns none (some 63)).map absI, 0 ≤ c := fun c hc => by
    obtain ⟨d, _, rfl⟩ := List.mem_map.mp hc
    unfold absI
    omega
  generalize (cutP ns none (some 63)).map absI = cs at e hp
  have hm : mulOk 7 (cs.length : Int) = true := mulOk_l (by omega)
  refine ⟨.own [.lst (Ints cs), .int 0, .int 0, .int (83 + 7 * cs.length), .int 0], ?_, ?_⟩
  · simp [F_hand0, fnF, prepP, finP, sNil, sSeq, sIf, sRet, sRetN, sExpr, sSet, sPar, sPar3, sAsg, sSetIx, sFor, gNm, gTp, gsNil, gsCons, eVar, ePk, eMv, eBor, eC, eBin, eNeg, eAndF, eOrF, eNotF, eIf, eChain, eTup, eLst, eNary, eCall, eMeth, eMake, eFld, eSl, oSome, oNone, aNil, aCons, tOf, tAndF, tOrF, tNotF, cont, conts, tmpOf, valOf, valsOf, toVl, Vl.sl, putB, iSeq, seqOf, iRange1, iRange2, iZip2, iZip3, iEnum, opAdd, opSub, opMul, opMod, opFdiv, opPow, opEq, opNe, opLt, opLe, opGt, opGe, opCmp, opIs, opIsNot, opIx, opSl, isNon, clLen, clAbs, clInt, clMax, clMin, clMax2, clMin2, clSum, clAll, clAny, clTuple, clList, clIsi, isTy, isAny, tyP, subTy, eAppend, eExtend, L2.atI, L2.ixN, datN_i, datN_n, datN_b, datN_l, datN_t, datNs_Ints, datNs_nil, eqP_ii, eqP_ll, eqP_tt, eqP_nn, eqP_bb, eqPs_Ints, eqPs_nn, eqPs_nc, eqPs_cn, lineN, e, Ints_len, hm]
  · exact ⟨cs, 0, 0, _, 0, rfl, Nat.zero_le _, Int.le_refl _, hp⟩
theorem Hd.own {s : Sl} (h : Hd s) : ∃ xs, s = .own xs := by
  obtain ⟨cells, i, rest, mix, cnt, rfl, _⟩ := h
  exact ⟨_, rfl⟩
/-- a draw within the code: the hand is at place i -/
theorem call_draw {ρ : List Sl} {i : Nat} {s : Sl} {lim : Int} (h : Hd s) (g : ρ[i]? = some s) (hl : 0 < lim ∧ lim < 2 ^ 64) : ∃ r s', eCall F_draw0 (aCons (eBor i) (aCons (eC (.int lim)) aNil)) ρ = some (.fz (.int r), ρ.set i s') ∧ 0 ≤ r ∧ r < lim ∧ Hd s' := by
  obtain ⟨r, s', e, h1, h2, h3⟩ := draw_spec h hl
  obtain ⟨xs, rfl⟩ := h.own
  refine ⟨r, s', ?_, h1, h2, h3⟩
  simp [eCall, aCons, aNil, eBor, eC, g, tmpOf, e, putB, Vl.sl]
/-- .. the limit read from a name -/
theorem call_drawV {ρ : List Sl} {i j : Nat} {s : Sl} {lim : Int} (h : Hd s) (g : ρ[i]? = some s) (g2 : ρ[j]? = some (.fz (.int lim))) (hij : i ≠ j) (hl : 0 < lim ∧ lim < 2 ^ 64) : ∃ r s', eCall F_draw0 (aCons (eBor i) (aCons (eVar j) aNil)) ρ = some (.fz (.int r), ρ.set i s') ∧ 0 ≤ r ∧ r < lim ∧ Hd s' := by
  obtain ⟨r, s', e, h1, h2, h3⟩ := draw_spec h hl
  obtain ⟨xs, rfl⟩ := h.own
  refine ⟨r, s', ?_, h1, h2, h3⟩
  simp [eCall, aCons, aNil, eBor, eVar, g, g2, List.getElem?_set_ne hij, tmpOf, e, putB, Vl.sl]
theorem map_of {items qs : List PV} {h : PV → PV} (l : qs.length = items.length) (e : ∀ (j : Nat) (p q : PV), items[j]? = some p → qs[j]? = some q → q = h p) : qs = items.map h := by
  apply List.ext_getElem?
  intro j
  rw [List.getElem?_map]
  by_cases hj : j < items.length
  · have h1 := List.getElem?_eq_getElem hj
    have h2 := List.getElem?_eq_getElem (show j < qs.length by omega)
    rw [h1, h2, e j _ _ h1 h2]; rfl
  · rw [List.getElem?_eq_none (by omega), List.getElem?_eq_none (by omega)]; rfl
theorem rangeP_mem {n : Nat} {p : PV} (h : p ∈ rangeP 0 n) : ∃ k, k < n ∧ p = .int (k : Nat) := by
  unfold rangeP at h
  obtain ⟨k, hk, rfl⟩ := List.mem_map.mp h
  exact ⟨k, List.mem_range.mp hk, by rw [Int.zero_add]⟩
theorem rangeP_map {n : Nat} {h : PV → PV} : (rangeP 0 n).map h = (List.range n).map fun k => h (.int (k : Nat)) := by
  unfold rangeP
  rw [List.map_map]
  refine List.map_congr_left fun k _ => ?_
  show h (.int (0 + (k : Nat))) = _
  rw [Int.zero_add]
theorem rangeP_get {n k : Nat} {p : PV} (h : (rangeP 0 n)[k]? = some p) : k < n ∧ p = .int (k : Nat) := by
  unfold rangeP at h
  rw [List.getElem?_map, Option.map_eq_some_iff] at h
  obtain ⟨j, h1, h2⟩ := h
  have hk : k < n := by
    have := (List.getElem?_eq_some_iff.mp h1).1
    rwa [List.length_range] at this
  rw [List.getElem?_range hk] at h1
  cases h1
  exact ⟨hk, by rw [← h2, Int.zero_add]⟩
theorem rangeP_len (n : Nat) : (rangeP 0 n).length = n := by unfold rangeP; simp
theorem intsOf_Ints : ∀ ns : List Int, intsOf (Ints ns) = some ns
  | [] => rfl
  | n :: ns => by
    have h := intsOf_Ints ns
    rw [Ints_cons]
    unfold intsOf
    rw [h]; rfl
end PL
set_option Elab.async false
set_option linter.all false
set_option maxRecDepth 100000
set_option maxHeartbeats 4000000
/-! PLs: from the function of the law to the law. -/
namespace PL
open PySem PySem.Spec PyProof.Rows L2
/-- what the law's end asks -/
def spEnd (K : PySem.W.Frag) : Sp := fun vs H Q _ => ∃ (a : Addr) (ns : List Int), vs = [.ref a] ∧ SqL K H a (ns.map V.int) ∧ ns.length ≤ 63 ∧ ∀ H', Q (.bl true) H'
theorem rpl_ints {R : RE} {F : Hp} : ∀ ns : List Int, RpL R F (ns.map PV.int) (ns.map V.int)
  | [] => .nil
  | n :: ns => .cons (.int n) (rpl_ints ns)
theorem end_of {P : Program} {w : World} {K : PySem.W.Frag} {mg : Str → Option Value} {base : Heap} {R : RE} {k : Nat} {f : Addr} {fd : FuncData} {fn : FP} (hf : FnP P w K mg base R k f fd ["script"] fn) (hK : R.K = K) (h : ∀ ns : List Int, ns.length ≤ 63 → ∃ as', fn [.fz (.scr (Ints ns))] = some (.fz (.bl true), as')) :
    FnOk P w K mg base CX0 k f fd ["script"] (spEnd K) :=
  hf.ok.imp fun vs H Q E ⟨a, ns, e, hS, hl, q⟩ => by
    subst e
    obtain ⟨as', e⟩ := h ns hl
    have hB : Bag R ⟨H, H, []⟩ H H [] := ⟨.refl, fun i s o g => by simp at g, fun i j s t o u a g _ _ _ => by simp at g, fun a o q _ => q, fun a ha => by simp at ha, fun i s o a g _ => by simp at g, fun a o q => .inl q, .refl⟩
    have hr : Rp R H (.scr (Ints ns)) (.ref a) := .scr (vs := ns.map V.int) (by rw [hK]; exact hS) (rpl_ints ns)
    have hB2 := hB.push_fz hr
    refine ⟨rfl, H, [.fz (.scr (Ints ns))], .fz (.bl true), as', rfl, ⟨_, hB2⟩, e, fun x H' F' B => ?_⟩
    have hx : Rp R F' (.bl true) x := by
      obtain ⟨y, ey, r⟩ := B.mem (p := ((Vl.fz (.bl true)).sl, some x)) (by simp)
      cases ey
      exact r
    cases hx
    exact q H'
end PL
set_option Elab.async false
set_option linter.all false
set_option maxRecDepth 100000
set_option maxHeartbeats 4000000
/-! PLt: more methods of lists. -/
namespace PL
open PySem PySem.Spec PyProof.Rows L2

/-- where the first equal one stands -/
def idxP (q : PV) : List PV → Option Nat
  | [] => none
  | x :: xs => if eqP x q = true then some 0 else (idxP q xs).map (· + 1)
theorem idxP_spec {q : PV} : ∀ {xs : List PV} {j : Nat}, idxP q xs = some j → (∃ z, xs[j]? = some z ∧ eqP z q = true) ∧ ∀ (m : Nat) (z : PV), m < j → xs[m]? = some z → eqP z q = false
  | [], j, h => by cases h
  | x :: xs, j, h => by
    unfold idxP at h
    split at h
    · rename_i c
      cases h
      exact ⟨⟨x, rfl, c⟩, fun m z hm => by omega⟩
    · rename_i c
      rw [Option.map_eq_some_iff] at h
      obtain ⟨i, h1, rfl⟩ := h
      obtain ⟨⟨z, h2, h3⟩, h4⟩ := idxP_spec h1
      refine ⟨⟨z, by simpa using h2, h3⟩, fun m y hm g => ?_⟩
      cases m with
      | zero =>
        simp at g
        subst g
        simpa using c
      | succ m => exact h4 m y (by omega) (by simpa using g)
theorem toDs_get : ∀ {xs : List PV} {j : Nat} {z : PV}, xs[j]? = some z → (toDs xs)[j]? = some (toD z)
  | [], _, _, h => by simp at h
  | x :: xs, 0, z, h => by simp at h; subst h; rfl
  | x :: xs, j + 1, z, h => by
    rw [toDs, List.getElem?_cons_succ]
    exact toDs_get (by simpa using h)
theorem toDs_get' : ∀ {xs : List PV} {j : Nat} {d : PyData}, (toDs xs)[j]? = some d → ∃ z, xs[j]? = some z ∧ d = toD z
  | [], _, _, h => by simp [toDs] at h
  | x :: xs, 0, d, h => by
    rw [toDs] at h
    simp at h
    exact ⟨x, rfl, h.symm⟩
  | x :: xs, j + 1, d, h => by
    rw [toDs, List.getElem?_cons_succ] at h
    obtain ⟨z, h1, h2⟩ := toDs_get' h
    exact ⟨z, by simpa using h1, h2⟩
def eIndex (fa fb : PF) : PF := fun ρ => (fa ρ).bind fun x => match cont x.2 x.1 with
  | some (.lst _) => (fb x.2).bind fun y => (cont y.2 x.1).bind fun p => (cont y.2 y.1).bind fun q => match p with
    | .lst xs => if datN 60 (.lst xs) = true ∧ datN 60 q = true then (idxP q xs).map fun j => (.fz (.int (j : Nat)), y.2) else none
    | _ => none
  | _ => none
section
variable {X : Cx} {R : RE} {a b : Expr} {fa fb : PF} {pos apos : Pos}
theorem eIndex_some {ρ ρ' : List Sl} {r : Sl} (q : eIndex fa fb ρ = some (r, ρ')) : ∃ r1 ρ1 ys r2 xs p j, fa ρ = some (r1, ρ1) ∧ cont ρ1 r1 = some (.lst ys) ∧ fb ρ1 = some (r2, ρ') ∧ cont ρ' r1 = some (.lst xs) ∧ cont ρ' r2 = some p ∧ datN 60 (.lst xs) = true ∧ datN 60 p = true ∧ idxP p xs = some j ∧ r = .fz (.int (j : Nat)) := by
  unfold eIndex at q
  rw [Option.bind_eq_some_iff] at q
  obtain ⟨⟨r1, ρ1⟩, h1, q⟩ := q
  split at q
  · rename_i ys h2
    rw [Option.bind_eq_some_iff] at q
    obtain ⟨⟨r2, ρ2⟩, h3, q⟩ := q
    rw [Option.bind_eq_some_iff] at q
    obtain ⟨pp, h4, q⟩ := q
    rw [Option.bind_eq_some_iff] at q
    obtain ⟨p, h5, q⟩ := q
    split at q
    · rename_i xs
      split at q
      · rename_i c
        rw [Option.map_eq_some_iff] at q
        obtain ⟨j, h6, q⟩ := q
        cases q
        exact ⟨r1, ρ1, ys, r2, xs, p, j, h1, h2, h3, h4, h5, c.1, c.2, h6, rfl⟩
      · cases q
    · cases q
  · cases q
theorem ev_index (hu : X.A.units + 65 < cLine) (hK : R.K = X.K) (ha : Ev X R a fa) (hb : Ev X R b fb) (hbase : attributeBase a "index" X.env (eval a X.env) = eval a X.env := by rfl)
    (h1 : ((((backTo pos (starEach [b] X.env)).all fun x => !x.fst) && (backToKw pos (keywordEach [] X.env)).all fun x => x.fst.isSome) && decide (([b].length + ([] : List Keyword).length + if ([] : List Keyword).isEmpty = true then 0 else 1) < 30)) = true := by rfl)
    (hline : (apos.endLine == pos.line) = true := by rfl) (he : starEach [b] X.env = (false, eval b X.env) :: starEach [] X.env := by rfl) (hpl : ((backTo pos (starEach [] X.env)).any fun x => x.fst) = false := by rfl) :
    Ev X R (.Call (.Attribute a "index" apos) [b] [] pos) (eIndex fa fb) := by
  refine ⟨fun ρ r ρ' q => ?_, pe_mono (pe_bm PySem.F.plainAttrs_list PySem.F.slot_list_index PySem.F.type_list_index (mt_indexD hu) ha.pe (pa_cons hb.pe pa_nil he) hbase h1 hline he hpl) fun σ H Q q => ?_⟩
  · obtain ⟨r1, ρ1, ys, r2, xs, p, j, q1, _, q2, _⟩ := eIndex_some q
    exact (hb.len _ _ _ q2).trans (ha.len _ _ _ q1)
  · obtain ⟨e, F, ρ, tm, r, ρ', hl, hB, hf, k⟩ := q
    obtain ⟨r1, ρ1, ys, r2, xs, p, j, q1, c1, q2, c2, c3, d1, d2, ij, rfl⟩ := eIndex_some hf
    have l1 := ha.len _ _ _ q1
    have l2 := hb.len _ _ _ q2
    refine ⟨e, F, ρ, tm, r1, ρ1, hl, hB, q1, fun x H1 F1 B1 k1 => ⟨?_, ?_⟩⟩
    · have B1' : Bag R e F1 H1 (ρ1.zip σ ++ tm ++ ([r1].map tmpOf).zip ([x].map some)) := B1
      obtain ⟨rq, B2⟩ := Bag.conts B1' (.cons k1 .nil) (ps := [.lst ys]) (by unfold PL.conts; rw [c1]; rfl)
      cases rq with
      | cons rq _ =>
        obtain ⟨ad, vs, rfl, h2, _⟩ := rq.lst B2.sub
        exact .inl ⟨rfl, _, SqL.of h2⟩
    · refine ⟨e, F1, ρ1, tm ++ [(tmpOf r1, some x)], r2, ρ', by omega, by rw [← List.append_assoc]; exact B1, q2, fun y H2 F2 B2 k2 => ?_⟩
      have B2' : Bag R e F2 H2 (ρ'.zip σ ++ tm ++ ([r1, r2].map tmpOf).zip ([x, y].map some)) := by
        have e1 : ([r1, r2].map tmpOf).zip ([x, y].map some) = [(tmpOf r1, some x)] ++ [(tmpOf r2, some y)] := rfl
        rw [e1, ← List.append_assoc, List.append_assoc (ρ'.zip σ)]
        exact B2
      obtain ⟨rq, B3⟩ := Bag.conts B2' (.cons k1 (.cons k2 .nil)) (ps := [.lst xs, p]) (by unfold PL.conts; rw [c2]; unfold PL.conts; rw [c3]; rfl)
      cases rq with
      | cons rq1 rq =>
        cases rq with
        | cons rq2 _ =>
          have dp1 := rq1.dp B3.sub d1
          have dp2 := rq2.dp B3.sub d2
          rw [hK] at dp1 dp2
          obtain ⟨ad, vs, rfl, h2, _⟩ := rq1.lst B3.sub
          obtain ⟨⟨z, g1, g2⟩, g3⟩ := idxP_spec ij
          have dz : ∀ {m : Nat} {z : PV}, xs[m]? = some z → datN 59 z = true := fun {m z} g => by
            have h3 : datNs 59 xs = true := d1
            rw [datNs_all] at h3
            exact List.all_eq_true.mp h3 z (List.mem_of_getElem? g)
          refine ⟨ad, y, toD p, toDs xs, j, toD z, rfl, rfl, dp1, dp2, shaped_toD d1, shaped_toD d2, toDs_get g1, by rw [eqv_toD 59 60 z p (dz g1) d2]; exact g2, fun m z' hm g => ?_, ?_⟩
          · obtain ⟨z2, g4, rfl⟩ := toDs_get' g
            rw [eqv_toD 59 60 z2 p (dz g4) d2]
            exact g3 m z2 hm g4
          · exact k _ H2 F2 (B3.push_fz (.int _)) pk_fz
end
/-- no promise at all -/
theorem fn_none {P : Program} {w : World} {K : PySem.W.Frag} {mg : Str → Option Value} {base : Heap} {R : RE} {x qual : Str} {st : Stmt} {f : Addr} {fd : FuncData} {N ps : List Str} {k : Nat} (F : Fun K x qual st f fd) (S : FnScope N ps (defScope st)) : FnP P w K mg base R (k + 1) f fd ps (fun _ => none) :=
  ⟨fun as r as' l q => (nomatch q), F.ok S (fun vs H Q E h => h.1) fun cdv A outer s H vs Q E hr h => by
    obtain ⟨lv, F0, as, r, as', la, _, hf, _⟩ := h
    cases hf⟩
end PL
set_option Elab.async false
set_option linter.all false
set_option maxRecDepth 100000
set_option maxHeartbeats 4000000
/-! PLu: lists and tuples of ranges. -/
namespace PL
open PySem PySem.Spec PyProof.Rows L2
/-- list(range(..)) (or tuple), told by what range walks -/
def eListRg (w : PIF) : PF := fun ρ => (w ρ).bind fun x => match x.2.1 with
  | [] => some (.own x.1, x.2.2)
  | _ => none
def eTupRg (w : PIF) : PF := fun ρ => (w ρ).bind fun x => match x.2.1 with
  | [] => some (.fz (.tup x.1), x.2.2)
  | _ => none
section
variable {X : Cx} {R : RE} {a b : Expr} {fa fb : PF} {p pos p2 pos2 : Pos}
theorem rg1_some {ρ ρ' : List Sl} {items : List PV} {rs : List Sl} (q : iRange1 fa ρ = some (items, rs, ρ')) : ∃ j, fa ρ = some (.fz (.int j), ρ') ∧ (-lineN ≤ j ∧ j ≤ lineN) ∧ items = rangeP 0 j.toNat ∧ rs = [] := by
  unfold iRange1 at q
  rw [Option.bind_eq_some_iff] at q
  obtain ⟨⟨r, ρ1⟩, h1, q⟩ := q
  split at q
  · rename_i j e1
    dsimp only at e1
    subst e1
    split at q
    · cases q; exact ⟨j, h1, by assumption, rfl, rfl⟩
    · cases q
  · cases q
theorem rg2_some {ρ ρ' : List Sl} {items : List PV} {rs : List Sl} (q : iRange2 fa fb ρ = some (items, rs, ρ')) : ∃ i j ρ1, fa ρ = some (.fz (.int i), ρ1) ∧ fb ρ1 = some (.fz (.int j), ρ') ∧ (-(2 ^ 62) ≤ i ∧ j < 2 ^ 62 ∧ i < 2 ^ 62 ∧ -(2 ^ 62) ≤ j ∧ j - i ≤ lineN) ∧ items = rangeP i (j - i).toNat ∧ rs = [] := by
  unfold iRange2 at q
  rw [Option.bind_eq_some_iff] at q
  obtain ⟨⟨r, ρ1⟩, h1, q⟩ := q
  rw [Option.bind_eq_some_iff] at q
  obtain ⟨⟨r2, ρ2⟩, h2, q⟩ := q
  split at q
  · rename_i i j e1 e2
    dsimp only at e1 e2
    subst e1 e2
    split at q
    · cases q; exact ⟨i, j, ρ1, h1, h2, by assumption, rfl, rfl⟩
    · cases q
  · cases q
theorem rpl_range {F : Hp} (lo : Int) (n : Nat) : RpL R F (rangeP lo n) ((List.range n).map fun i => V.int (lo + (i : Nat))) := by
  unfold rangeP
  have : ∀ ks : List Nat, RpL R F (ks.map fun k => PV.int (lo + (k : Nat))) (ks.map fun i => V.int (lo + (i : Nat))) := by
    intro ks
    induction ks with
    | nil => exact .nil
    | cons k ks ih => exact .cons (.int _) ih
  exact this _
theorem listRg_some {w : PIF} {ρ ρ' : List Sl} {r : Sl} (q : eListRg w ρ = some (r, ρ')) : ∃ items, w ρ = some (items, [], ρ') ∧ r = .own items := by
  unfold eListRg at q
  rw [Option.bind_eq_some_iff] at q
  obtain ⟨⟨items, rs, ρ1⟩, h1, q⟩ := q
  split at q
  · rename_i e
    dsimp only at e
    subst e
    cases q
    exact ⟨items, h1, rfl⟩
  · cases q
theorem ev_listRg1 (hc : X.calm = true) (hl : Gl X "list") (hml : X.mg "list" = none) (hg : Gl X "range") (hm : X.mg "range" = none) (ha : Ev X R a fa) (h1 : starEach [a] X.env = (false, eval a X.env) :: starEach [] X.env := by rfl)
    (h2 : starEach [.Call (.Name "range" p2) [a] [] pos2] X.env = (false, eval (.Call (.Name "range" p2) [a] [] pos2) X.env) :: starEach [] X.env := by rfl) :
    Ev X R (.Call (.Name "list" p) [.Call (.Name "range" p2) [a] [] pos2] [] pos) (eListRg (iRange1 fa)) := by
  refine ⟨fun ρ r ρ' q => ?_, pe_mono (pe_listRg hc hl hml (prg_1 hg hm ha.pe h1) h2) fun σ H Q q => ?_⟩
  · obtain ⟨items, q, _⟩ := listRg_some q
    obtain ⟨j, q, _⟩ := rg1_some q
    exact ha.len _ _ _ q
  · obtain ⟨e, F, ρ, tm, r, ρ', hl, hB, hf, k⟩ := q
    obtain ⟨items, hf2, rfl⟩ := listRg_some hf
    obtain ⟨j, q1, hj, rfl, _⟩ := rg1_some hf2
    refine ⟨e, F, ρ, tm, _, ρ', hl, hB, q1, fun x H1 F1 B1 _ => ?_⟩
    have ex := (B1.rq_fz (x := x) (p := .int j) app_last).int
    have hL : (lineN : Int) = 16777216 := rfl
    refine ⟨j, ex, ⟨by decide, by decide, by omega, by omega, by omega⟩, fun q nq => ?_⟩
    have e1 : rgV 0 j = (List.range j.toNat).map fun i => V.int (0 + (i : Nat)) := by unfold rgV; rw [Int.sub_zero]
    rw [e1]
    exact k _ _ F1 (B1.pop.new_lst nq (rpl_range 0 j.toNat)) pk_own
theorem ev_listRg2 (hc : X.calm = true) (hl : Gl X "list") (hml : X.mg "list" = none) (hg : Gl X "range") (hm : X.mg "range" = none) (ha : Ev X R a fa) (hb : Ev X R b fb) (h1 : starEach [a, b] X.env = (false, eval a X.env) :: starEach [b] X.env := by rfl) (h1b : starEach [b] X.env = (false, eval b X.env) :: starEach [] X.env := by rfl)
    (h1c : ((backTo pos2 (starEach [b] X.env)).any fun x => x.fst) = false := by rfl)
    (h2 : starEach [.Call (.Name "range" p2) [a, b] [] pos2] X.env = (false, eval (.Call (.Name "range" p2) [a, b] [] pos2) X.env) :: starEach [] X.env := by rfl) :
    Ev X R (.Call (.Name "list" p) [.Call (.Name "range" p2) [a, b] [] pos2] [] pos) (eListRg (iRange2 fa fb)) := by
  refine ⟨fun ρ r ρ' q => ?_, pe_mono (pe_listRg hc hl hml (prg_2 hg hm ha.pe hb.pe h1 h1b h1c) h2) fun σ H Q q => ?_⟩
  · obtain ⟨items, q, _⟩ := listRg_some q
    obtain ⟨i, j, ρ1, q1, q2, _⟩ := rg2_some q
    exact (hb.len _ _ _ q2).trans (ha.len _ _ _ q1)
  · obtain ⟨e, F, ρ, tm, r, ρ', hl, hB, hf, k⟩ := q
    obtain ⟨items, hf2, rfl⟩ := listRg_some hf
    obtain ⟨i, j, ρ1, q1, q2, hj, rfl, _⟩ := rg2_some hf2
    have l1 := ha.len _ _ _ q1
    refine ⟨e, F, ρ, tm, _, ρ1, hl, hB, q1, fun x H1 F1 B1 _ => ?_⟩
    have ex := (B1.rq_fz (x := x) (p := .int i) app_last).int
    refine ⟨e, F1, ρ1, tm, _, ρ', by omega, B1.pop, q2, fun y H2 F2 B2 _ => ?_⟩
    have ey := (B2.rq_fz (x := y) (p := .int j) app_last).int
    have hL : (lineN : Int) = 16777216 := rfl
    refine ⟨i, j, ex, ey, ⟨hj.1, hj.2.2.1, hj.2.2.2.1, hj.2.1, by omega⟩, fun q nq => ?_⟩
    exact k _ _ F2 (B2.pop.new_lst nq (rpl_range i (j - i).toNat)) pk_own
end
end PL
set_option Elab.async false
set_option linter.all false
set_option maxRecDepth 100000
set_option maxHeartbeats 4000000
/-! PLv: arguments that are lent at the call itself (later arguments may use them before). -/
namespace PL
open PySem PySem.Spec PyProof.Rows L2
def resv : List Sl → List Sl → Option (List Sl × List Sl)
  | [], ρ => some ([], ρ)
  | .pk i :: rs, ρ => match ρ[i]? with
    | some (.fz p) => (resv rs ρ).map fun y => (.fz p :: y.1, y.2)
    | some (.own xs) => (resv rs (ρ.set i .moved)).map fun y => (.br i (.own xs) :: y.1, y.2)
    | _ => none
  | r :: rs, ρ => (resv rs ρ).map fun y => (r :: y.1, y.2)
def aRes (fs : PFs) : PFs := fun ρ => (fs ρ).bind fun x => resv x.1 x.2
theorem resv_len : ∀ (rs ρ qs ρ' : List Sl), resv rs ρ = some (qs, ρ') → qs.length = rs.length ∧ ρ'.length = ρ.length
  | [], ρ, qs, ρ', h => by cases h; exact ⟨rfl, rfl⟩
  | r :: rs, ρ, qs, ρ', h => by
    have gen : ∀ (q : Sl) (τ : List Sl), τ.length = ρ.length → (resv rs τ).map (fun y => (q :: y.1, y.2)) = some (qs, ρ') → qs.length = (r :: rs).length ∧ ρ'.length = ρ.length := fun q τ hτ g => by
      rw [Option.map_eq_some_iff] at g
      obtain ⟨⟨ys, τ'⟩, h1, g⟩ := g
      cases g
      obtain ⟨l1, l2⟩ := resv_len rs τ _ _ h1
      exact ⟨by rw [List.length_cons, List.length_cons, l1], l2.trans hτ⟩
    cases r with
    | pk i =>
      unfold resv at h
      split at h
      · exact gen _ _ rfl h
      · exact gen _ _ (List.length_set) h
      · cases h
    | _ => exact gen _ _ rfl h
section
variable {R : RE} {e : En} {F H : Hp}
theorem Bag.resv {σ : L2.St} : ∀ {rs ρ qs ρ' : List Sl} {xs : List V} {T : Bg}, ρ.length = σ.length → PL.resv rs ρ = some (qs, ρ') → Paired (fun r x => PkOk r σ x) rs xs → Bag R e F H (ρ.zip σ ++ T ++ (rs.map tmpOf).zip (xs.map some)) →
    Bag R e F H (ρ'.zip σ ++ T ++ (qs.map tmpOf).zip (xs.map some)) ∧ Paired (fun r x => PkOk r σ x) qs xs
  | [], ρ, qs, ρ', [], T, _, h, _, hB => by cases h; exact ⟨hB, .nil⟩
  | r :: rs, ρ, qs, ρ', x :: xs, T, hl, h, .cons k ks, hB => by
    have e1 : ∀ (q : Sl) (us : List Sl), ((q :: us).map tmpOf).zip ((x :: xs).map some) = [(tmpOf q, some x)] ++ (us.map tmpOf).zip (xs.map some) := fun _ _ => rfl
    have plain : ∀ (q : Sl) (τ : List Sl), τ.length = σ.length → PkOk q σ x → (PL.resv rs τ).map (fun y => (q :: y.1, y.2)) = some (qs, ρ') → Bag R e F H (τ.zip σ ++ (T ++ [(tmpOf q, some x)]) ++ (rs.map tmpOf).zip (xs.map some)) →
        Bag R e F H (ρ'.zip σ ++ T ++ (qs.map tmpOf).zip ((x :: xs).map some)) ∧ Paired (fun r x => PkOk r σ x) qs (x :: xs) := fun q τ hτ hk g hB' => by
      rw [Option.map_eq_some_iff] at g
      obtain ⟨⟨ys, τ'⟩, h1, g⟩ := g
      cases g
      obtain ⟨B2, k2⟩ := Bag.resv hτ h1 ks hB'
      refine ⟨?_, .cons hk k2⟩
      rw [e1, ← List.append_assoc, List.append_assoc (τ'.zip σ)]
      exact B2
    have swap : ∀ (τ : List Sl) (s : Sl), Bag R e F H (τ.zip σ ++ (T ++ ((.un, some x) :: (rs.map tmpOf).zip (xs.map some))) ++ [(s, some x)]) → Bag R e F H (τ.zip σ ++ (T ++ [(s, some x)]) ++ (rs.map tmpOf).zip (xs.map some)) := fun τ s hB' => by
      have h1 : Bag R e F H (τ.zip σ ++ (T ++ (rs.map tmpOf).zip (xs.map some)) ++ [(s, some x)]) := hB'.sublist (((List.Sublist.refl _).append ((List.Sublist.refl _).append (List.sublist_cons_self _ _))).append (List.Sublist.refl _))
      refine h1.perm ?_
      rw [List.append_assoc, List.append_assoc (τ.zip σ), List.append_assoc T, List.append_assoc T]
      exact (List.Perm.refl _).append ((List.Perm.refl _).append List.perm_append_comm)
    have other : tmpOf r = tmpOf r → (∀ i, r ≠ .pk i) → PL.resv (r :: rs) ρ = (PL.resv rs ρ).map (fun y => (r :: y.1, y.2)) := fun _ hn => by
      cases r with
      | pk i => exact absurd rfl (hn i)
      | _ => rfl
    by_cases hp : ∃ i, r = .pk i
    · obtain ⟨i, rfl⟩ := hp
      have hx : σ[i]? = some (some x) := k i (.inl rfl)
      have hB1 : Bag R e F H (ρ.zip σ ++ (T ++ ((.un, some x) :: (rs.map tmpOf).zip (xs.map some)))) := by
        rw [← List.append_assoc]
        exact hB
      unfold PL.resv at h
      split at h
      · rename_i p g
        obtain ⟨o, h2, h3, y, ey, h4⟩ := slot_some hB1 hl g
        rw [hx] at h2
        cases h2
        cases ey
        exact plain (.fz p) ρ hl pk_fz h (swap ρ _ (hB1.push_fz h4))
      · rename_i zs g
        have h3 := lend hB1 hl g hx
        refine plain (.br i (.own zs)) (ρ.set i .moved) (by rw [List.length_set]; exact hl) (fun j z => ?_) h (swap _ _ h3)
        rcases z with z | ⟨_, z⟩ <;> cases z
        exact hx
      · cases h
    · have hn : ∀ i, r ≠ .pk i := fun i z => hp ⟨i, z⟩
      rw [other rfl hn] at h
      refine plain r ρ hl k h ?_
      rw [← List.append_assoc, List.append_assoc (ρ.zip σ ++ T)]
      exact hB
  | [], _, _, _, _ :: _, _, _, _, k, _ => by cases k
  | _ :: _, _, _, _, [], _, _, _, k, _ => by cases k
end
theorem av_res {X : Cx} {R : RE} {es : List Expr} {fs : PFs} (h : Av X R es fs) : Av X R es (aRes fs) := by
  have key : ∀ {ρ ρ' : List Sl} {qs : List Sl}, aRes fs ρ = some (qs, ρ') → ∃ rs ρ1, fs ρ = some (rs, ρ1) ∧ resv rs ρ1 = some (qs, ρ') := by
    intro ρ ρ' qs q
    unfold aRes at q
    rw [Option.bind_eq_some_iff] at q
    obtain ⟨⟨rs, ρ1⟩, h1, q⟩ := q
    exact ⟨rs, ρ1, h1, q⟩
  refine ⟨fun ρ r ρ' q => ?_, fun ρ r ρ' q => ?_, pa_mono h.pa fun σ H Q q => ?_⟩
  · obtain ⟨rs, ρ1, q1, q2⟩ := key q
    exact (resv_len _ _ _ _ q2).2.trans (h.len _ _ _ q1)
  · obtain ⟨rs, ρ1, q1, q2⟩ := key q
    exact (resv_len _ _ _ _ q2).1.trans (h.cnt _ _ _ q1)
  · obtain ⟨e, F, ρ, tm, qs, ρ', hl, hB, hf, k⟩ := q
    obtain ⟨rs, ρ1, q1, q2⟩ := key hf
    refine ⟨e, F, ρ, tm, rs, ρ1, hl, hB, q1, fun xs H1 F1 B1 k1 => ?_⟩
    obtain ⟨B2, k2⟩ := Bag.resv ((h.len _ _ _ q1).trans hl) q2 k1 B1
    exact k xs H1 F1 B2 k2
end PL
set_option Elab.async false
set_option linter.all false
set_option maxRecDepth 100000
set_option maxHeartbeats 4000000
/-! PLw: sum of a tuple of ints. -/
namespace PL
open PySem PySem.Spec PyProof.Rows L2
theorem preSum_getD : ∀ (ns : List Int) (n : Nat), n ≤ ns.length → preSum (fun i => ns.getD i 0) n = (ns.take n).sum
  | ns, 0, _ => by simp [preSum]
  | ns, n + 1, h => by
    have ih := preSum_getD ns n (by omega)
    have e : ns.take (n + 1) = ns.take n ++ [ns.getD n 0] := by
      rw [List.take_add_one, List.getD_eq_getElem?_getD, List.getElem?_eq_getElem (by omega)]; rfl
    rw [e, List.sum_append, ← ih]
    simp [preSum]
def rSumT (K : PySem.W.Frag) (vs : List V) (H : Hp) (Q : VK) : Prop := ∃ (a : Addr) (ns : List Int), vs = [V.ref a] ∧ SqT K H a (ns.map V.int) ∧ Q (.int ns.sum) H
section
variable {X : Cx}
theorem cr_sumT (hc : X.calm = true) : CallR X (.builtin "sum") (rSumT X.K) := by
  intro pins s σ H xs us Q I rv ⟨a, ns, e, hq, k⟩
  subst e
  match us, rv with
  | [_], .cons r .nil =>
    cases r
    refine call_sum_walkG (tup_walk I hq (I.ok.hd hc) fun its ri w _ hfp hst hI => ?_)
    refine ⟨_, _, _, _, _, _, fun i => ns.getD i 0, rfl, w, hst, hfp, fun i v g => vals_ints_get ri g, fun h' tk t' hk => ?_⟩
    rw [preSum_getD ns ns.length (Nat.le_refl _), List.take_length]
    exact ⟨.int _, H, hI h' tk hk, ⟨_, rfl⟩, k⟩
end
def clSum2 : List PV → Option Vl := fun ps => match clSum ps with
  | some r => some r
  | none => match ps with
    | [.tup xs] => (intsOf xs).map fun ns => .fz (.int ns.sum)
    | _ => none
theorem cok_sum2 {R : RE} : CallOk R clSum2 (fun xs H Q => rSum R.K xs H Q ∨ rSumT R.K xs H Q) := by
  refine cok_sum.or (op' := fun ps => match ps with
    | [.tup xs] => (intsOf xs).map fun ns => .fz (.int ns.sum)
    | _ => none) ?_
  intro e F H B ps xs r Q hB hp ho k
  dsimp only at ho
  split at ho
  · rename_i zs
    rw [Option.map_eq_some_iff] at ho
    obtain ⟨ns, h1, rfl⟩ := ho
    obtain ⟨x, rfl, q⟩ := hp.one
    obtain ⟨a, vs, rfl, h2, r1⟩ := q.tup hB.sub
    rw [intsOf_eq h1] at r1
    rw [r1.ints] at h2
    exact ⟨a, ns, rfl, h2, k _ H F (hB.push_fz (.int _))⟩
  · cases ho
end PL
set_option Elab.async false
set_option linter.all false
set_option maxRecDepth 100000
set_option maxHeartbeats 4000000
/-! PLx: steps of the raw functions, one construct each. -/
namespace PL
open PySem
theorem stBin {op : PV → PV → Option Vl} {f g : PF} {ρ ρ1 ρ2 : List Sl} {r s : Sl} {p q : PV} {v : Vl} (h1 : f ρ = some (r, ρ1)) (h2 : g ρ1 = some (s, ρ2)) (c1 : cont ρ2 r = some p) (c2 : cont ρ2 s = some q) (h : op p q = some v) : eBin op f g ρ = some (v.sl, ρ2) := by
  unfold eBin
  rw [h1, Option.bind_some, h2, Option.bind_some, c1, Option.bind_some, c2, Option.bind_some, h]; rfl
theorem stNary {op : List PV → Option Vl} {fs : PFs} {ρ ρ1 : List Sl} {rs : List Sl} {ps : List PV} {v : Vl} (h1 : fs ρ = some (rs, ρ1)) (h2 : conts ρ1 rs = some ps) (h : op ps = some v) : eNary op fs ρ = some (v.sl, ρ1) := by
  unfold eNary
  rw [h1, Option.bind_some, h2, Option.bind_some, h]; rfl
theorem stCons {f : PF} {fs : PFs} {ρ ρ1 ρ2 : List Sl} {r : Sl} {rs : List Sl} (h1 : f ρ = some (r, ρ1)) (h2 : fs ρ1 = some (rs, ρ2)) : aCons f fs ρ = some (r :: rs, ρ2) := by
  unfold aCons
  rw [h1, Option.bind_some, h2]; rfl
theorem stOne {f : PF} {ρ ρ1 : List Sl} {r : Sl} (h1 : f ρ = some (r, ρ1)) : aCons f aNil ρ = some ([r], ρ1) := stCons h1 rfl
theorem stCall {f : FP} {fs : PFs} {ρ ρ1 : List Sl} {v : Vl} {rs ss : List Sl} (h1 : fs ρ = some (rs, ρ1)) (h2 : f (rs.map tmpOf) = some (v, ss)) : eCall f fs ρ = some (v.sl, putB rs ss ρ1) := by
  unfold eCall
  rw [h1, Option.bind_some, h2]; rfl
theorem stSet {fa : PF} {ρ ρ1 : List Sl} {r : Sl} {v : Vl} {i : Nat} (h : fa ρ = some (r, ρ1)) (hv : toVl r = some v) : sSet i fa ρ = some (.nx, ρ1.set i v.sl) := by
  unfold sSet
  rw [h, Option.bind_some, hv]; rfl
theorem stRet {fa : PF} {ρ ρ1 : List Sl} {r : Sl} {v : Vl} (h : fa ρ = some (r, ρ1)) (hv : toVl r = some v) : sRet fa ρ = some (.rt v, ρ1) := by
  unfold sRet
  rw [h, Option.bind_some, hv]; rfl
theorem stOf {fa : PF} {ρ ρ1 : List Sl} {b : Bool} (h : fa ρ = some (.fz (.bl b), ρ1)) : tOf fa ρ = some (b, ρ1) := by
  unfold tOf
  rw [h]; rfl
theorem stIf {t : PT'} {f g : PSF} {ρ ρ1 : List Sl} {b : Bool} (h : t ρ = some (b, ρ1)) : sIf t f g ρ = if b = true then f ρ1 else g ρ1 := by
  unfold sIf
  rw [h]; rfl
theorem stNx {f g : PSF} {ρ ρ1 : List Sl} (h : f ρ = some (.nx, ρ1)) : sSeq f g ρ = g ρ1 := by
  unfold sSeq
  rw [h, Option.bind_some]
theorem stRt {f g : PSF} {ρ ρ1 : List Sl} {v : Vl} (h : f ρ = some (.rt v, ρ1)) : sSeq f g ρ = some (.rt v, ρ1) := by
  unfold sSeq
  rw [h, Option.bind_some]
theorem stExpr {fa : PF} {ρ ρ1 : List Sl} {r : Sl} (h : fa ρ = some (r, ρ1)) : sExpr fa ρ = some (.nx, ρ1) := by
  unfold sExpr
  rw [h]; rfl
theorem stFor {w : PIF} {g : PGF} {body : PSF} {ρ ρ1 ρ2 : List Sl} {items : List PV} {rs : List Sl} {fl : Fl} (h : w ρ = some (items, rs, ρ1)) (h2 : forP g body items ρ1 = some (fl, ρ2)) : sFor w g body ρ = some (fl, ρ2) := by
  unfold sFor
  rw [h, Option.bind_some]
  exact h2
theorem stRange1 {f : PF} {ρ ρ1 : List Sl} {n : Nat} {i : Int} (h : f ρ = some (.fz (.int i), ρ1)) (hi : i = (n : Int)) (hn : n ≤ 100000) : iRange1 f ρ = some (rangeP 0 n, [], ρ1) := by
  unfold iRange1
  rw [h, Option.bind_some, hi]
  have hc : -(lineN : Int) ≤ (n : Int) ∧ (n : Int) ≤ (lineN : Int) := by
    unfold lineN
    exact ⟨by omega, by omega⟩
  simp only [hc, and_self, if_true, Int.toNat_natCast]
theorem stRange2 {f g : PF} {ρ ρ1 ρ2 : List Sl} {i j : Int} (h1 : f ρ = some (.fz (.int i), ρ1)) (h2 : g ρ1 = some (.fz (.int j), ρ2)) (hi : -100000 ≤ i ∧ i ≤ 100000) (hj : -100000 ≤ j ∧ j ≤ 100000) : iRange2 f g ρ = some (rangeP i (j - i).toNat, [], ρ2) := by
  unfold iRange2
  rw [h1, Option.bind_some]
  simp only [h2, Option.bind_some]
  have hc : -(2 ^ 62) ≤ i ∧ j < 2 ^ 62 ∧ i < 2 ^ 62 ∧ -(2 ^ 62) ≤ j ∧ j - i ≤ (lineN : Int) := by
    unfold lineN
    refine ⟨?_, ?_, ?_, ?_, ?_⟩ <;> omega
  rw [if_pos hc]
theorem stAnd {f g : PF} {ρ ρ1 ρ2 : List Sl} {r : Sl} {b : Bool} (h1 : f ρ = some (.fz (.bl b), ρ1)) (h2 : b = true → g ρ1 = some (r, ρ2)) (h3 : b = false → r = .fz (.bl false) ∧ ρ2 = ρ1) : eAndF f g ρ = some (r, ρ2) := by
  unfold eAndF
  rw [stOf h1]
  cases b with
  | true => exact h2 rfl
  | false => obtain ⟨rfl, rfl⟩ := h3 rfl; rfl
theorem stNot {t : PT'} {ρ ρ1 : List Sl} {b : Bool} (h : t ρ = some (b, ρ1)) : tNotF t ρ = some (!b, ρ1) := by
  unfold tNotF
  rw [h]; rfl
theorem stLstAdd {f g : PF} {ρ ρ1 ρ2 : List Sl} {r s : Sl} {xs ys : List PV} (h1 : f ρ = some (r, ρ1)) (h2 : g ρ1 = some (s, ρ2)) (c1 : cont ρ2 r = some (.lst xs)) (c2 : cont ρ2 s = some (.lst ys)) (hl : xs.length + ys.length ≤ 100000) : eBin opAdd f g ρ = some (.own (xs ++ ys), ρ2) := by
  have : xs.length + ys.length ≤ lineN := by unfold lineN; omega
  exact stBin (v := .own (xs ++ ys)) h1 h2 c1 c2 (by unfold opAdd; exact if_pos this)
theorem stPk {i : Nat} {ρ : List Sl} {p : PV} (h : ρ[i]? = some (.fz p)) : ePk i ρ = some (.fz p, ρ) := by
  unfold ePk
  rw [h]
theorem stPkO {i : Nat} {ρ : List Sl} {xs : List PV} (h : ρ[i]? = some (.own xs)) : ePk i ρ = some (.pk i, ρ) := by
  unfold ePk
  rw [h]
theorem stVar {i : Nat} {ρ : List Sl} {p : PV} (h : ρ[i]? = some (.fz p)) : eVar i ρ = some (.fz p, ρ) := by
  unfold eVar
  rw [h]
theorem stVarO {i : Nat} {ρ : List Sl} {xs : List PV} (h : ρ[i]? = some (.own xs)) : eVar i ρ = some (.fz (.lst xs), ρ.set i (.fz (.lst xs))) := by
  unfold eVar
  rw [h]
theorem stBor {i : Nat} {ρ : List Sl} {xs : List PV} (h : ρ[i]? = some (.own xs)) : eBor i ρ = some (.br i (.own xs), ρ.set i .moved) := by
  unfold eBor
  rw [h]
theorem stMv {i : Nat} {ρ : List Sl} {xs : List PV} (h : ρ[i]? = some (.own xs)) : eMv i ρ = some (.own xs, ρ.set i .moved) := by
  unfold eMv
  rw [h]
theorem stC {p : PV} {ρ : List Sl} : eC p ρ = some (.fz p, ρ) := rfl
theorem stNil {ρ : List Sl} : aNil ρ = some ([], ρ) := rfl
theorem stNeg {f : PF} {ρ ρ1 : List Sl} {i : Int} (h : f ρ = some (.fz (.int i), ρ1)) : eNeg f ρ = some (.fz (.int (-i)), ρ1) := by
  unfold eNeg
  rw [h]; rfl
theorem stNotE {f : PF} {ρ ρ1 : List Sl} {b : Bool} (h : f ρ = some (.fz (.bl b), ρ1)) : eNotF f ρ = some (.fz (.bl (!b)), ρ1) := by
  unfold eNotF
  rw [stOf h]; rfl
theorem stAndT {f g : PF} {ρ ρ1 : List Sl} {b : Bool} {z : Option (Sl × List Sl)} (h1 : f ρ = some (.fz (.bl b), ρ1)) (hb : b = true) (h2 : g ρ1 = z) : eAndF f g ρ = z := by
  unfold eAndF
  rw [stOf h1, hb]; exact h2
theorem stAndN {f g : PF} {ρ ρ1 : List Sl} {b : Bool} (h1 : f ρ = some (.fz (.bl b), ρ1)) (hb : b = false) : eAndF f g ρ = some (.fz (.bl false), ρ1) := by
  unfold eAndF
  rw [stOf h1, hb]; rfl
theorem stOrN {f g : PF} {ρ ρ1 : List Sl} {b : Bool} {z : Option (Sl × List Sl)} (h1 : f ρ = some (.fz (.bl b), ρ1)) (hb : b = false) (h2 : g ρ1 = z) : eOrF f g ρ = z := by
  unfold eOrF
  rw [stOf h1, hb]; exact h2
theorem stOrT {f g : PF} {ρ ρ1 : List Sl} {b : Bool} (h1 : f ρ = some (.fz (.bl b), ρ1)) (hb : b = true) : eOrF f g ρ = some (.fz (.bl true), ρ1) := by
  unfold eOrF
  rw [stOf h1, hb]; rfl
theorem stTAndT {f g : PT'} {ρ ρ1 : List Sl} {b : Bool} {z : Option (Bool × List Sl)} (h1 : f ρ = some (b, ρ1)) (hb : b = true) (h2 : g ρ1 = z) : tAndF f g ρ = z := by
  unfold tAndF
  rw [h1, hb]; exact h2
theorem stTAndN {f g : PT'} {ρ ρ1 : List Sl} {b : Bool} (h1 : f ρ = some (b, ρ1)) (hb : b = false) : tAndF f g ρ = some (false, ρ1) := by
  unfold tAndF
  rw [h1, hb]; rfl
theorem stTOrN {f g : PT'} {ρ ρ1 : List Sl} {b : Bool} {z : Option (Bool × List Sl)} (h1 : f ρ = some (b, ρ1)) (hb : b = false) (h2 : g ρ1 = z) : tOrF f g ρ = z := by
  unfold tOrF
  rw [h1, hb]; exact h2
theorem stTOrT {f g : PT'} {ρ ρ1 : List Sl} {b : Bool} (h1 : f ρ = some (b, ρ1)) (hb : b = true) : tOrF f g ρ = some (true, ρ1) := by
  unfold tOrF
  rw [h1, hb]; rfl
theorem stIfT {t : PT'} {f g : PSF} {ρ ρ1 : List Sl} {b : Bool} {z : Option (Fl × List Sl)} (h : t ρ = some (b, ρ1)) (hb : b = true) (h2 : f ρ1 = z) : sIf t f g ρ = z := by
  unfold sIf
  rw [h, hb]; exact h2
theorem stIfN {t : PT'} {f g : PSF} {ρ ρ1 : List Sl} {b : Bool} {z : Option (Fl × List Sl)} (h : t ρ = some (b, ρ1)) (hb : b = false) (h2 : g ρ1 = z) : sIf t f g ρ = z := by
  unfold sIf
  rw [h, hb]; exact h2
theorem stIfET {t : PT'} {f g : PF} {ρ ρ1 : List Sl} {b : Bool} {z : Option (Sl × List Sl)} (h : t ρ = some (b, ρ1)) (hb : b = true) (h2 : f ρ1 = z) : eIf t f g ρ = z := by
  unfold eIf
  rw [h, hb]; exact h2
theorem stIfEN {t : PT'} {f g : PF} {ρ ρ1 : List Sl} {b : Bool} {z : Option (Sl × List Sl)} (h : t ρ = some (b, ρ1)) (hb : b = false) (h2 : g ρ1 = z) : eIf t f g ρ = z := by
  unfold eIf
  rw [h, hb]; exact h2
theorem stSeqN {f g : PSF} {ρ ρ1 : List Sl} {z : Option (Fl × List Sl)} (h : f ρ = some (.nx, ρ1)) (h2 : g ρ1 = z) : sSeq f g ρ = z := (stNx h).trans h2
theorem stNilS {ρ : List Sl} : sNil ρ = some (.nx, ρ) := rfl
theorem stoS {f : PF} {ρ ρ1 : List Sl} {i : Int} (h : f ρ = some (.fz (.int i), ρ1)) : oSome f ρ = some (some i, ρ1) := by
  unfold oSome
  rw [h]; rfl
theorem stoN {ρ : List Sl} : oNone ρ = some (none, ρ) := rfl
theorem stSl {fa : PF} {fl fh : PFo} {ρ ρ1 ρ2 ρ3 : List Sl} {r : Sl} {l h : Option Int} {p : PV} {v : Vl} (h1 : fa ρ = some (r, ρ1)) (h2 : fl ρ1 = some (l, ρ2)) (h3 : fh ρ2 = some (h, ρ3)) (c : cont ρ3 r = some p) (ho : opSl p l h = some v) : eSl fa fl fh ρ = some (v.sl, ρ3) := by
  unfold eSl
  rw [h1, Option.bind_some, h2, Option.bind_some, h3, Option.bind_some, c, Option.bind_some, ho]; rfl
theorem stTup {fs : PFs} {ρ ρ1 : List Sl} {rs : List Sl} {ps : List PV} (h1 : fs ρ = some (rs, ρ1)) (h2 : valsOf rs = some ps) (hl : ps.length ≤ lineN) : eTup fs ρ = some (.fz (.tup ps), ρ1) := by
  unfold eTup
  rw [h1, Option.bind_some, h2, Option.bind_some, if_pos hl]
theorem stLst {fs : PFs} {ρ ρ1 : List Sl} {rs : List Sl} {ps : List PV} (h1 : fs ρ = some (rs, ρ1)) (h2 : valsOf rs = some ps) (hl : ps.length ≤ lineN) : eLst fs ρ = some (.own ps, ρ1) := by
  unfold eLst
  rw [h1, Option.bind_some, h2, Option.bind_some, if_pos hl]
theorem stFld {t : Nat → Option Nat} {fa : PF} {ρ ρ1 : List Sl} {c j : Nat} {xs : List PV} {p : PV} (h : fa ρ = some (.fz (.ins c xs), ρ1)) (h2 : t c = some j) (h3 : xs[j]? = some p) : eFld t fa ρ = some (.fz p, ρ1) := by
  unfold eFld
  rw [h, Option.bind_some]
  show (t c).bind _ = _
  rw [h2, Option.bind_some, h3]; rfl
theorem stAppend {i : Nat} {f : PF} {ρ ρ1 : List Sl} {r : Sl} {p : PV} {xs ys : List PV} (h0 : ρ[i]? = some (.own ys)) (h1 : f ρ = some (r, ρ1)) (h2 : valOf r = some p) (h3 : ρ1[i]? = some (.own xs)) (hl : xs.length < lineN) : eAppend i f ρ = some (.fz .non, ρ1.set i (.own (xs ++ [p]))) := by
  unfold eAppend
  rw [h0]
  show (f ρ).bind _ = _
  rw [h1, Option.bind_some, h2, Option.bind_some]
  show (match ρ1[i]? with | some (.own xs) => _ | _ => _) = _
  rw [h3]
  exact if_pos hl
theorem stFn {N : Nat} {rs : List Bool} {body : PSF} {as ρ1 : List Sl} {v : Vl} (h : body (prepP rs as ++ List.replicate (N - rs.length) .un) = some (.rt v, ρ1)) : fnF N rs body as = some (v, finP rs (prepP rs as) ρ1) := by
  unfold fnF
  rw [h]; rfl
theorem stFnN {N : Nat} {rs : List Bool} {body : PSF} {as ρ1 : List Sl} (h : body (prepP rs as ++ List.replicate (N - rs.length) .un) = some (.nx, ρ1)) : fnF N rs body as = some (.fz .non, finP rs (prepP rs as) ρ1) := by
  unfold fnF
  rw [h]; rfl
theorem stChainT {op op' : PV → PV → Option Vl} {fa fb fc : PF} {ρ ρ1 ρ2 ρ3 : List Sl} {r s t : Sl} {p q q' u : PV} {b : Bool} {v : Vl} (h1 : fa ρ = some (r, ρ1)) (h2 : fb ρ1 = some (s, ρ2)) (c1 : cont ρ2 r = some p) (c2 : cont ρ2 s = some q) (ho : op p q = some (.fz (.bl b))) (hb : b = true) (h3 : fc ρ2 = some (t, ρ3)) (c3 : cont ρ3 s = some q') (c4 : cont ρ3 t = some u) (ho2 : op' q' u = some v) : eChain op op' fa fb fc ρ = some (v.sl, ρ3) := by
  subst hb
  unfold eChain
  rw [h1, Option.bind_some, h2, Option.bind_some, c1, Option.bind_some, c2, Option.bind_some, ho]
  show (fc ρ2).bind _ = _
  rw [h3, Option.bind_some, c3, Option.bind_some, c4, Option.bind_some, ho2]; rfl
theorem stChainN {op op' : PV → PV → Option Vl} {fa fb fc : PF} {ρ ρ1 ρ2 : List Sl} {r s : Sl} {p q : PV} {b : Bool} (h1 : fa ρ = some (r, ρ1)) (h2 : fb ρ1 = some (s, ρ2)) (c1 : cont ρ2 r = some p) (c2 : cont ρ2 s = some q) (ho : op p q = some (.fz (.bl b))) (hb : b = false) : eChain op op' fa fb fc ρ = some (.fz (.bl false), ρ2) := by
  subst hb
  unfold eChain
  rw [h1, Option.bind_some, h2, Option.bind_some, c1, Option.bind_some, c2, Option.bind_some, ho]
theorem stPar {i j : Nat} {fs : PFs} {ρ ρ1 : List Sl} {r s : Sl} {v w : Vl} (h : fs ρ = some ([r, s], ρ1)) (h2 : toVl r = some v) (h3 : toVl s = some w) : sPar i j fs ρ = some (.nx, (ρ1.set i v.sl).set j w.sl) := by
  unfold sPar
  rw [h, Option.bind_some]
  show (toVl r).bind _ = _
  rw [h2, Option.bind_some, h3]; rfl
theorem stAsg {f : PF} {g : PGF} {ρ ρ1 ρ2 : List Sl} {r : Sl} {p : PV} (h : f ρ = some (r, ρ1)) (h2 : valOf r = some p) (h3 : g p ρ1 = some ρ2) : sAsg f g ρ = some (.nx, ρ2) := by
  unfold sAsg
  rw [h, Option.bind_some, h2, Option.bind_some, h3]; rfl
theorem stISeq {f : PF} {ρ ρ1 : List Sl} {r : Sl} {items : List PV} (h : f ρ = some (r, ρ1)) (h2 : seqOf (tmpOf r) = some items) : iSeq f ρ = some (items, [r], ρ1) := by
  unfold iSeq
  rw [h, Option.bind_some, h2]; rfl
theorem seq_fz_lst {xs : List PV} : seqOf (tmpOf (.fz (.lst xs))) = some xs := rfl


theorem opEq_ii {i j : Int} : opEq (.int i) (.int j) = some (.fz (.bl (decide (i = j)))) := by
  unfold opEq
  rw [datN_i, datN_i, if_pos ⟨rfl, rfl⟩, eqP_ii]
  rfl
theorem opNe_ii {i j : Int} : opNe (.int i) (.int j) = some (.fz (.bl (!decide (i = j)))) := by
  unfold opNe
  rw [datN_i, datN_i, if_pos ⟨rfl, rfl⟩, eqP_ii]
  rfl
theorem opIx_l {xs : List PV} {i : Int} {p : PV} (h : L2.atI xs i = some p) : opIx (.lst xs) (.int i) = some (.fz p) := by
  show Option.map _ _ = _
  rw [h]; rfl
theorem opIx_t {xs : List PV} {i : Int} {p : PV} (h : L2.atI xs i = some p) : opIx (.tup xs) (.int i) = some (.fz p) := by
  show Option.map _ _ = _
  rw [h]; rfl
theorem opMod_i {i j : Int} (h : 0 < j) : opMod (.int i) (.int j) = some (.fz (.int (i % j))) := by
  show (if _ then _ else _) = _
  exact if_pos h
theorem clSum2_l {xs : List PV} {ns : List Int} (h : intsOf xs = some ns) : clSum2 [.lst xs] = some (.fz (.int ns.sum)) := by
  simp only [clSum2, clSum, h, Option.map_some]
theorem clSum2_t {xs : List PV} {ns : List Int} (h : intsOf xs = some ns) : clSum2 [.tup xs] = some (.fz (.int ns.sum)) := by
  simp only [clSum2, clSum, h, Option.map_some]
theorem clMax2_l {xs : List PV} {ns : List Int} (h : intsOf xs = some ns) (hn : ns ≠ []) : clMax2 [.lst xs] = some (.fz (.int (maxL ns))) := by
  have : ns.isEmpty = false := by cases ns with | nil => exact absurd rfl hn | cons _ _ => rfl
  unfold clMax2 clMax
  simp only [h, Option.bind_some, this]
  rfl
theorem clMin2_l {xs : List PV} {ns : List Int} (h : intsOf xs = some ns) (hn : ns ≠ []) : clMin2 [.lst xs] = some (.fz (.int (minL ns))) := by
  have : ns.isEmpty = false := by cases ns with | nil => exact absurd rfl hn | cons _ _ => rfl
  unfold clMin2 clMin
  simp only [h, Option.bind_some, this]
  rfl
theorem clAll_l {xs : List PV} {bs : List Bool} (h : blsOf xs = some bs) : clAll [.lst xs] = some (.fz (.bl (bs.all id))) := by
  simp only [clAll, h, Option.map_some]
theorem clAny_l {xs : List PV} {bs : List Bool} (h : blsOf xs = some bs) : clAny [.lst xs] = some (.fz (.bl (bs.any id))) := by
  simp only [clAny, h, Option.map_some]
theorem clLen_l {xs : List PV} {n : Nat} (h : xs.length = n) : clLen [.lst xs] = some (.fz (.int n)) := by
  rw [← h]; rfl
theorem clLen_t {xs : List PV} {n : Nat} (h : xs.length = n) : clLen [.tup xs] = some (.fz (.int n)) := by
  rw [← h]; rfl
def flOut : Fl → Bool
  | .nx => false
  | _ => true
theorem stSeqO {f g : PSF} {ρ ρ1 : List Sl} {fl : Fl} (h : f ρ = some (fl, ρ1)) (hf : flOut fl = true) : sSeq f g ρ = some (fl, ρ1) := by
  unfold sSeq
  rw [h, Option.bind_some]
  cases fl <;> first | rfl | exact absurd hf (by simp [flOut])
theorem stZip2 {fs : PFs} {ρ ρ1 : List Sl} {r s : Sl} {xs ys : List PV} (h : fs ρ = some ([r, s], ρ1)) (h1 : seqOf (tmpOf r) = some xs) (h2 : seqOf (tmpOf s) = some ys) : iZip2 fs ρ = some (zipP xs ys, [r, s], ρ1) := by
  unfold iZip2
  rw [h, Option.bind_some]
  show (seqOf (tmpOf r)).bind _ = _
  rw [h1, Option.bind_some, h2]; rfl
theorem stZip3 {fs : PFs} {ρ ρ1 : List Sl} {r s t : Sl} {xs ys zs : List PV} (h : fs ρ = some ([r, s, t], ρ1)) (h1 : seqOf (tmpOf r) = some xs) (h2 : seqOf (tmpOf s) = some ys) (h3 : seqOf (tmpOf t) = some zs) : iZip3 fs ρ = some (zip3P xs ys zs, [r, s, t], ρ1) := by
  unfold iZip3
  rw [h, Option.bind_some]
  show (seqOf (tmpOf r)).bind _ = _
  rw [h1, Option.bind_some, h2, Option.bind_some, h3]; rfl
theorem stEnum {fs : PFs} {ρ ρ1 : List Sl} {r : Sl} {xs : List PV} (h : fs ρ = some ([r], ρ1)) (h1 : seqOf (tmpOf r) = some xs) : iEnum fs ρ = some (enumP 0 xs, [r], ρ1) := by
  unfold iEnum
  rw [h, Option.bind_some]
  show (seqOf (tmpOf r)).map _ = _
  rw [h1]; rfl
theorem stMeth {c : Nat} {f : FP} {fa : PF} {fs : PFs} {ρ ρ1 ρ2 : List Sl} {zs : List PV} {rs ss : List Sl} {s0 : Sl} {v : Vl} (h1 : fa ρ = some (.fz (.ins c zs), ρ1)) (h2 : fs ρ1 = some (rs, ρ2)) (h3 : f (.fz (.ins c zs) :: rs.map tmpOf) = some (v, s0 :: ss)) : eMeth c f fa fs ρ = some (v.sl, putB rs ss ρ2) := by
  unfold eMeth
  rw [h1, Option.bind_some]
  show (if c = c then _ else _) = _
  rw [if_pos rfl, h2, Option.bind_some, h3]; rfl
theorem stMake {c n : Nat} {f : FP} {fs : PFs} {ρ ρ1 : List Sl} {rs ss : List Sl} {zs : List PV} (h1 : fs ρ = some (rs, ρ1)) (h2 : f (.obj c [] :: rs.map tmpOf) = some (.fz .non, .obj c zs :: ss)) (h3 : zs.length = n) : eMake c n f fs ρ = some (.fz (.ins c zs), putB rs ss ρ1) := by
  unfold eMake
  rw [h1, Option.bind_some, h2, Option.bind_some]
  exact if_pos ⟨rfl, h3⟩
theorem stRetN {ρ : List Sl} : sRetN ρ = some (.rt (.fz .non), ρ) := rfl
theorem stChainT' {op op' : PV → PV → Option Vl} {fa fb fc : PF} {ρ ρ1 ρ2 ρ3 : List Sl} {r s t : Sl} {p q q' u : PV} {v : Vl} (h1 : fa ρ = some (r, ρ1)) (h2 : fb ρ1 = some (s, ρ2)) (c1 : cont ρ2 r = some p) (c2 : cont ρ2 s = some q) (ho : op p q = some (.fz (.bl true))) (h3 : fc ρ2 = some (t, ρ3)) (c3 : cont ρ3 s = some q') (c4 : cont ρ3 t = some u) (ho2 : op' q' u = some v) : eChain op op' fa fb fc ρ = some (v.sl, ρ3) :=
  stChainT h1 h2 c1 c2 ho rfl h3 c3 c4 ho2
theorem bl_eq {b c : Bool} {x : Option Vl} (h : x = some (.fz (.bl b))) (e : b = c) : x = some (.fz (.bl c)) := e ▸ h
theorem stSetIx {i : Nat} {fa fi : PF} {ρ ρ1 ρ2 : List Sl} {r : Sl} {p : PV} {ys xs : List PV} {j : Int} {m : Nat} (h1 : fa ρ = some (r, ρ1)) (h2 : valOf r = some p) (h3 : ρ1[i]? = some (.own ys)) (h4 : fi ρ1 = some (.fz (.int j), ρ2)) (h5 : ρ2[i]? = some (.own xs)) (h6 : L2.ixN xs.length j = some m) : sSetIx i fa fi ρ = some (.nx, ρ2.set i (.own (xs.set m p))) := by
  unfold sSetIx
  rw [h1, Option.bind_some, h2, Option.bind_some]
  show (match ρ1[i]? with | some (.own _) => _ | _ => _) = _
  rw [h3]
  show (fi ρ1).bind _ = _
  rw [h4, Option.bind_some]
  show (match Sl.fz (.int j), ρ2[i]? with | .fz (.int j), some (.own xs) => _ | _, _ => _) = _
  rw [h5]
  show (L2.ixN xs.length j).map _ = _
  rw [h6]; rfl

theorem not_t {b : Bool} (h : b = false) : (!b) = true := by rw [h]; rfl
theorem not_f {b : Bool} (h : b = true) : (!b) = false := by rw [h]; rfl
theorem stIndex {fa fb : PF} {ρ ρ1 ρ2 : List Sl} {r1 r2 : Sl} {xs ys : List PV} {q : PV} {j : Nat} (h1 : fa ρ = some (r1, ρ1)) (c1 : cont ρ1 r1 = some (.lst ys)) (h2 : fb ρ1 = some (r2, ρ2)) (c2 : cont ρ2 r1 = some (.lst xs)) (c3 : cont ρ2 r2 = some q) (d1 : datN 60 (.lst xs) = true) (d2 : datN 60 q = true) (hi : idxP q xs = some j) : eIndex fa fb ρ = some (.fz (.int j), ρ2) := by
  unfold eIndex
  simp only [h1, Option.bind_some, c1, h2, c2, c3, d1, d2, and_self, if_true, hi, Option.map_some]
theorem opAdd_l {xs ys : List PV} (h : xs.length + ys.length ≤ 100000) : opAdd (.lst xs) (.lst ys) = some (.own (xs ++ ys)) := by
  have : xs.length + ys.length ≤ lineN := by unfold lineN; omega
  exact if_pos this
theorem opAdd_t {xs ys : List PV} (h : xs.length + ys.length ≤ 100000) : opAdd (.tup xs) (.tup ys) = some (.fz (.tup (xs ++ ys))) := by
  have : xs.length + ys.length ≤ lineN := by unfold lineN; omega
  exact if_pos this
theorem stListRg {w : PIF} {ρ ρ1 : List Sl} {items : List PV} (h : w ρ = some (items, [], ρ1)) : eListRg w ρ = some (.own items, ρ1) := by
  unfold eListRg
  rw [h]; rfl
theorem rangeP_length {a : Int} {n : Nat} : (rangeP a n).length = n := by unfold rangeP; simp
end PL
set_option Elab.async false
set_option linter.all false
set_option maxRecDepth 100000
set_option maxHeartbeats 4000000
/-! PLz: x, y = a, b where x or y is captured (the pair is laid and parted). -/
namespace PL
open PySem PySem.Spec PyProof.Rows L2
section
variable {X : Cx} {R : RE} {pr : List Nat} {a b : PySem.Expr} {pos : Pos}
theorem sv_parC {i j : Nat} {x y : Str} {fs : PFs} {px py pt : Pos} {kt k2 pt2} (hc : X.calm = true) (hN : X.N.Nodup) (hi : X.N[i]? = some x) (hj : X.N[j]? = some y)
    (hx : Loc X.env.scope x) (hy : Loc X.env.scope y) (hp : i ∉ pr) (hp' : j ∉ pr) (h : Av X R [a, b] fs)
    (fx : X.fn x = true ∨ X.env.scope.names.lookup x = some .local := by first | exact .inl rfl | exact .inr rfl | assumption)
    (fy : X.fn y = true ∨ X.env.scope.names.lookup y = some .local := by first | exact .inl rfl | exact .inr rfl | assumption)
    (hw : swappedStores [.Tuple [.Name x px, .Name y py] kt pt] (.Tuple [a, b] k2 pt2) X.env = pure none := by rfl)
    (hs : swapsWithSole [.Tuple [.Name x px, .Name y py] kt pt] (.Tuple [a, b] k2 pt2) pos.line X.env = pure false := by rfl)
    (h1 : (assignEach [.Tuple [.Name x px, .Name y py] kt pt] X.env).map (·.2) = [assign (.Tuple [.Name x px, .Name y py] kt pt) X.env] := by rfl)
    (hn : (assignEach [.Name x px, .Name y py] X.env).length = 2 := by rfl) (hst : (assignEach [.Name x px, .Name y py] X.env).findIdx? (·.1) = none := by rfl)
    (e1 : (assignEach [.Name x px, .Name y py] X.env).map (·.2) = assign (.Name x px) X.env :: (assignEach [.Name y py] X.env).map (·.2) := by rfl)
    (e2 : (assignEach [.Name y py] X.env).map (·.2) = assign (.Name y py) X.env :: (assignEach [] X.env).map (·.2) := by rfl) :
    Sv X R pr (.Assign [.Tuple [.Name x px, .Name y py] kt pt] (.Tuple [a, b] k2 pt2) pos) (sPar i j fs) := by
  refine ⟨fun ρ r ρ' q => ?_, ps_mono (ps_asg (pe_tup h.pa) (pg_tup hc (pgs_cons (pg_name hN hi hx fx) (pgs_cons (pg_name hN hj hy fy) pgs_nil e2) e1) hn hst) hs hw h1) fun D σ H q => ?_⟩
  · obtain ⟨v, w, ρ1, q1, _, rfl⟩ := sPar_some q
    rw [List.length_set, List.length_set]; exact h.len _ _ _ q1
  · obtain ⟨e, F, ρ, tm, fl, ρ', hl, hB, hf, k⟩ := q
    obtain ⟨v, w, ρ1, q1, rfl, rfl⟩ := sPar_some hf
    refine ⟨e, F, ρ, tm, _, ρ1, hl, hB, q1, fun xs H' F' B' k1 => ?_⟩
    have l1 := h.len _ _ _ q1
    have lx := Paired.len k1
    match xs, lx with
    | [x1, x2], _ =>
      refine ⟨by rw [← lineN_eq]; show 2 ≤ lineN; decide, fun p n => ?_⟩
      refine ⟨p, [x1, x2], rfl, .inl (.inl upd_same), rfl, x1, [x2], rfl, x2, [], rfl, rfl, ?_⟩
      have e1 : ([v.sl, w.sl].map tmpOf).zip ([x1, x2].map some) = [(v.sl, some x1), (w.sl, some x2)] := by simp [tmp_sl]
      rw [e1] at B'
      have B2 := Bag.slot (i := i) (B'.lay (o := .tup [x1, x2]) n) (by omega)
      have B3 := Bag.slot (i := j) B2 (by rw [List.length_set, List.length_set]; omega)
      rw [List.append_nil] at B3
      exact k _ _ F' (by rw [List.length_set, List.length_set]) (fun m hm => by rw [pr_set hp' m hm, pr_set hp m hm]) B3
end
end PL
set_option Elab.async false
set_option linter.all false
set_option maxRecDepth 100000
set_option maxHeartbeats 4000000
/-! PL1: list(zip(xs, ys)): each tuple stays in the list. -/
namespace PL
open PySem PySem.Sem PySem.Spec PyProof.Rows L2
section
variable {prog : Program} {w : World} {A : Around} {E : Value → Shared → Prop} {s : Shared} {z TI TO T i1 i2 : Addr} {f : Bool} {oT : Obj} {fp1 fp2 : List Addr} {n1 n2 i : Nat} {P1 P2 : Nat → Value → Prop} {St1 St2 : Nat → Heap → Prop}
/-- zip's next while the tuple given out before is still about: a new tuple -/
theorem zipHeld_item {Q : Value → Shared → Prop} (S : ZipSep2 z TI TO i1 i2 fp1 fp2) (D1 : Draws prog w A i1 fp1 n1 P1 St1) (D2 : Draws prog w A i2 fp2 n2 P2 St2)
    (hz : IsZipHeld s.heap z TI TO T f) (hT : s.heap.get? T = some oT) (hTI : IsTupOf2 s.heap TI (.ref i1) (.ref i2)) (st1 : St1 i s.heap) (st2 : St2 i s.heap) (l1 : i < n1) (l2 : i < n2)
    (k : ∀ x y h' tk, P1 i x → P2 i y → IsZipHeld h' z TI TO T true → St1 (i + 1) h' → St2 (i + 1) h' → IsTupOf2 h' s.heap.objs.size x y →
      (∀ c o, c ≠ z → c ≠ i1 → c ≠ i2 → s.heap.get? c = some o → h'.get? c = some o) → Q (.ref s.heap.objs.size) { s with heap := h', toks := tk }) :
    wpAny (model prog w) A (Builtin.«zip.__next__» ⟨[.ref z], []⟩) (fun fin s' => ∃ v, fin = .done (.ret v) ∧ Q v s') E s := by
  obtain ⟨hp, g, d, tk0, os⟩ := s
  show wpAny _ _ (field (.ref z) 2 >>= _) _ _ _
  refine wpAny_bind (wpAny_field hz rfl (x := .bool false) rfl ?_)
  show wpAny _ _ (field (.ref z) 3 >>= _) _ _ _
  refine wpAny_bind (wpAny_field hz rfl (x := .ref TI) rfl (wpAny_bind (wpAny_seqItems hTI rfl ?_)))
  show wpAny _ _ (Builtin.SmallTypes.ownedTupleIsFree (.ref z) >>= _) _ _ _
  refine wpAny_bind (wpAny_tupleHeld_zip hz hT fun a za sa => ?_)
  replace sa : Heap.SameBut z hp a := sa
  replace za : IsZipHeld a z TI TO T true := za
  simp only [Bool.false_eq_true, if_false]
  refine wpAny_bind ?_
  rw [← Array.forIn_toList]
  simp only [List.forIn_cons, List.forIn_nil]
  refine wpAny_bind (wpAny_bind (wpAny_holding ?_))
  show wpAny _ _ (Builtin.SmallTypes.nextOf (.ref i1) >>= _) _ _ ⟨a, g, d, tk0, os⟩
  refine wpAny_bind (D1.item i _ _ _ l1 (D1.over st1 sa S.zf1) fun x b t1 px j1 sb => wpAny_pure (wpAny_pure ?_))
  replace sb : Heap.SameBut i1 a b := sb
  refine wpAny_bind (wpAny_bind (wpAny_holding ?_))
  show wpAny _ _ (Builtin.SmallTypes.nextOf (.ref i2) >>= _) _ _ ⟨b, g, d, t1, os⟩
  refine wpAny_bind (D2.item i _ _ _ l2 (D2.over (D2.over st2 sa S.zf2) sb S.sep1_2) fun y c t2 py j2 sc => wpAny_pure (wpAny_pure (wpAny_pure ?_)))
  replace sc : Heap.SameBut i2 b c := sc
  show wpAny _ _ (newTuple [x, y] >>= _) _ _ ⟨c, g, d, t2, os⟩
  refine wpAny_bind (wpAny_newTuple (wpAny_pure ⟨_, rfl, ?_⟩))
  have sz : c.objs.size = hp.objs.size := by rw [sc.1, sb.1, sa.1]
  have up : ∀ e o, c.get? e = some o → (c.push { cls := .type "tuple", data := .seq #[x, y] }).get? e = some o := fun e o q => Heap.get?_push_of_some _ q
  have hp' : IsTupOf2 (c.push { cls := .type "tuple", data := .seq #[x, y] }) c.objs.size x y := Heap.get?_push_size _ rfl
  show Q (.ref c.objs.size) ⟨_, g, d, t2, os⟩
  rw [sz] at hp' ⊢
  exact k x y _ t2 px py (up _ _ (sc.extBut _ _ S.zi2 (sb.extBut _ _ S.zi1 za))) (D1.frame _ _ _ (D1.over j1 sc S.sep2_1) fun e _ o q => up e o q) (D2.frame _ _ _ j2 fun e _ o q => up e o q) hp'
    fun e o e1 e2 e3 q => up e o (sc.extBut _ _ e3 (sb.extBut _ _ e2 (sa.extBut _ _ e1 q)))
theorem zipHeld_end {Q : Fin → Shared → Prop} (S : ZipSep2 z TI TO i1 i2 fp1 fp2) (D1 : Draws prog w A i1 fp1 n1 P1 St1) (D2 : Draws prog w A i2 fp2 n2 P2 St2)
    (hz : IsZipHeld s.heap z TI TO T f) (hT : s.heap.get? T = some oT) (hTI : IsTupOf2 s.heap TI (.ref i1) (.ref i2)) (st1 : St1 i s.heap) (st2 : St2 i s.heap) (l1 : i ≤ n1) (l2 : i ≤ n2) (he : i = n1 ∨ i = n2)
    (k : ∀ h' tk e, (∀ c o, c ≠ z → c ≠ i1 → c ≠ i2 → s.heap.get? c = some o → h'.get? c = some o) → (∃ o, h'.get? e = some o ∧ o.cls = .type "StopIteration") → E (.ref e) { s with heap := h', toks := tk }) :
    wpAny (model prog w) A (Builtin.«zip.__next__» ⟨[.ref z], []⟩) Q E s := by
  obtain ⟨hp, g, d, tk0, os⟩ := s
  show wpAny _ _ (field (.ref z) 2 >>= _) _ _ _
  refine wpAny_bind (wpAny_field hz rfl (x := .bool false) rfl ?_)
  show wpAny _ _ (field (.ref z) 3 >>= _) _ _ _
  refine wpAny_bind (wpAny_field hz rfl (x := .ref TI) rfl (wpAny_bind (wpAny_seqItems hTI rfl ?_)))
  show wpAny _ _ (Builtin.SmallTypes.ownedTupleIsFree (.ref z) >>= _) _ _ _
  refine wpAny_bind (wpAny_tupleHeld_zip hz hT fun a za sa => ?_)
  replace sa : Heap.SameBut z hp a := sa
  simp only [Bool.false_eq_true, if_false]
  refine wpAny_bind ?_
  rw [← Array.forIn_toList]
  simp only [List.forIn_cons, List.forIn_nil]
  refine wpAny_bind (wpAny_bind (wpAny_holding ?_))
  show wpAny _ _ (Builtin.SmallTypes.nextOf (.ref i1) >>= _) _ _ ⟨a, g, d, tk0, os⟩
  by_cases c1 : i < n1
  · refine wpAny_bind (D1.item i _ _ _ c1 (D1.over st1 sa S.zf1) fun x b t1 px j1 sb => wpAny_pure (wpAny_pure ?_))
    replace sb : Heap.SameBut i1 a b := sb
    have e2 : i = n2 := by omega
    refine wpAny_bind (wpAny_bind (wpAny_holding ?_))
    show wpAny _ _ (Builtin.SmallTypes.nextOf (.ref i2) >>= _) _ _ ⟨b, g, d, t1, os⟩
    refine wpAny_bind (D2.done ⟨b, g, d, t1, os⟩ _ _ (by rw [← e2]; exact D2.over (D2.over st2 sa S.zf2) sb S.sep1_2) fun q e hq hx => ?_)
    replace hq : Heap.ExtBut i2 b q := hq
    exact k q t1 e (fun c o k1 k2 k3 x => hq _ _ k3 (sb.extBut _ _ k2 (sa.extBut _ _ k1 x))) hx
  · have e1 : i = n1 := by omega
    refine wpAny_bind (D1.done ⟨a, g, d, tk0, os⟩ _ _ (by rw [← e1]; exact D1.over st1 sa S.zf1) fun q e hq hx => ?_)
    replace hq : Heap.ExtBut i1 a q := hq
    exact k q tk0 e (fun c o k1 k2 k3 x => hq _ _ k2 (sa.extBut _ _ k1 x)) hx
theorem next_zipHeld {Q : Option Value → Shared → Prop} (S : ZipSep2 z TI TO i1 i2 fp1 fp2) (D1 : Draws prog w A.in1 i1 fp1 n1 P1 St1) (D2 : Draws prog w A.in1 i2 fp2 n2 P2 St2)
    (hz : IsZipHeld s.heap z TI TO T f) (hT : s.heap.get? T = some oT) (hTI : IsTupOf2 s.heap TI (.ref i1) (.ref i2)) (st1 : St1 i s.heap) (st2 : St2 i s.heap) (l1 : i < n1) (l2 : i < n2)
    (k : ∀ x y h' tk, P1 i x → P2 i y → IsZipHeld h' z TI TO T true → St1 (i + 1) h' → St2 (i + 1) h' → IsTupOf2 h' s.heap.objs.size x y →
      (∀ c o, c ≠ z → c ≠ i1 → c ≠ i2 → s.heap.get? c = some o → h'.get? c = some o) → Q (some (.ref s.heap.objs.size)) { s with heap := h', toks := tk }) :
    wpAny (model prog w) A (pyNext (.ref z)) Q E s := by
  have ty : s.TypeIs (.ref z) "zip" := ⟨_, hz, rfl⟩
  unfold pyNext
  refine wpAny_bind (wpAny_attempt (wpAny_callSpecial?_slot (name := Str.ofString "__next__") ty F.slot_zip_next (wpAny_call_entry F.slot_zip_next ty F.entry_zip_next ?_ (F.args_zip_next_1 _))))
  exact zipHeld_item S D1 D2 hz hT hTI st1 st2 l1 l2 fun x y h' tk a b c d e g j => wpAny_pure (k x y h' tk a b c d e g j)
theorem next_zipHeldEnd {Q : Option Value → Shared → Prop} (S : ZipSep2 z TI TO i1 i2 fp1 fp2) (D1 : Draws prog w A.in1 i1 fp1 n1 P1 St1) (D2 : Draws prog w A.in1 i2 fp2 n2 P2 St2)
    (hz : IsZipHeld s.heap z TI TO T f) (hT : s.heap.get? T = some oT) (hTI : IsTupOf2 s.heap TI (.ref i1) (.ref i2)) (st1 : St1 i s.heap) (st2 : St2 i s.heap) (l1 : i ≤ n1) (l2 : i ≤ n2) (he : i = n1 ∨ i = n2)
    (k : ∀ h' tk, (∀ c o, c ≠ z → c ≠ i1 → c ≠ i2 → s.heap.get? c = some o → h'.get? c = some o) → Q none { s with heap := h', toks := tk }) :
    wpAny (model prog w) A (pyNext (.ref z)) Q E s := by
  have ty : s.TypeIs (.ref z) "zip" := ⟨_, hz, rfl⟩
  unfold pyNext
  refine wpAny_bind (wpAny_attempt (wpAny_callSpecial?_slot (name := Str.ofString "__next__") ty F.slot_zip_next (wpAny_call_entry F.slot_zip_next ty F.entry_zip_next (zipHeld_end S D1 D2 hz hT hTI st1 st2 l1 l2 he fun h' tk e hk hx => ?_) (F.args_zip_next_1 _))))
  obtain ⟨o, ho, hc⟩ := hx
  exact wpAny_bind (wpAny_isInstance (T := "StopIteration") (b := true) ⟨o, ho, hc⟩ isSubtype_stop (wpAny_pure (k _ _ hk)))
end
theorem zip_noLen : typeLookup (.type "zip") "__len__" = pure none := by rw [typeLookup_type, builtinLookup_eq_fast]; kernel_rfl
theorem zip_noHint : typeLookup (.type "zip") "__length_hint__" = pure none := by rw [typeLookup_type, builtinLookup_eq_fast]; kernel_rfl

/-- pairs that were laid one by one -/
inductive Grown (H : Hp) : List (V × V) → List V → Hp → Prop
  | nil : Grown H [] [] H
  | snoc {ps : List (V × V)} {ts : List V} {H1 : Hp} {T : Addr} {x y : V} : Grown H ps ts H1 → H1 T = none → Grown H (ps ++ [(x, y)]) (ts ++ [.ref T]) (upd H1 T (.tup [x, y]))
theorem Grown.sub {H H1 : Hp} {ps : List (V × V)} {ts : List V} (g : Grown H ps ts H1) : Sub H H1 := by
  induction g with
  | nil => exact .refl
  | snoc _ n ih => exact ih.trans (sub_upd n)
theorem Grown.len {H H1 : Hp} {ps : List (V × V)} {ts : List V} (g : Grown H ps ts H1) : ts.length = ps.length := by
  induction g with
  | nil => rfl
  | snoc _ _ ih => rw [List.length_append, List.length_append, ih]; rfl
theorem SqS.mono {K : PySem.W.Frag} {F G : Hp} {s : Src} {vs : List V} (h : SqS K F s vs) (m : Sub F G) : SqS K G s vs := by
  cases s with
  | l a => exact m.sqL h
  | t a => exact m.sqT h
theorem FpOk.new {X : Cx} {pins : List (Addr × Obj)} {H : Hp} {T b : Addr} {o : HO} (h : FpOk X pins H b) (n : b ≠ T) : FpOk X pins (upd H T o) b := ⟨(upd_ne n).trans h.1, h.2⟩
/-- an object of ours is tracked from now on as a list -/
theorem Inv.track {X : Cx} {pins : List (Addr × Obj)} {σ : L2.St} {H : Hp} {s : Shared} {S : Addr} {vs : List V} {acc : Array Value} {c : Nat} (I : Inv X pins σ H s) (hf : FpOk X pins H S) (e : s.heap.get? S = some { cls := .type "list", dict := none, data := .seq acc c, slots := #[] })
    (r : Vals vs acc.toList) (hl : vs.length ≤ sizeLine) : Inv X pins σ (upd H S (.lst vs)) s := by
  have hn : H S = none := hf.1
  have key : Inv X pins σ (upd H S (.lst vs)) { s with heap := s.heap, gens := s.gens, drawn := s.drawn, toks := s.toks } := by
    refine I.step (ch := [S]) (fun b hb => by rw [List.mem_singleton.mp hb]; exact ⟨hf.2.2.2.1, hf.2.1, hf.2.2.2.2.1, hf.2.2.2.2.2⟩) (fun b o _ _ _ q _ => q) (fun b o _ _ _ q _ => ⟨o.slots, q⟩)
      (fun b o hb _ n => ?_) (fun b o _ q => ⟨o, q⟩) (fun b us q => ?_) (fun b o u q => ?_) (fun b us q => ⟨#[], ?_⟩) (fun m hm => hm) (fun b u q => ?_) I.bare
    · rw [upd_ne (fun z => hb (by rw [z]; exact List.mem_singleton.mpr rfl))]; exact n
    · rw [upd_ne (ne_of_none q hn)]; exact q
    · rw [upd_ne (ne_of_none q hn)]; exact q
    · rw [upd_ne (ne_of_none q hn), q]; simp
    · by_cases hb : b = S
      · subst hb
        rw [upd_same] at q
        cases q
        exact ⟨hl, acc.toList, c, r, by rw [e]⟩
      · rw [upd_ne hb] at q
        exact (I.hok b u q).stay (fun _ _ _ z => z) (fun d z => by rw [upd_ne (ne_of_none z hn)]; exact z) fun d us z => by rw [upd_ne (ne_of_none z hn)]; exact z
  exact key

/-- a zip before turn i: as it was made, or with the tuple given out last -/
def ZSt (z TI TO i1 i2 : Addr) (a b : Src) (i : Nat) (H : Hp) (h : Heap) : Prop :=
  IsTupOf2 h TI (.ref i1) (.ref i2) ∧ itS h i1 a i ∧ itS h i2 b i ∧ (∃ x y, IsTupOf2 h TO x y) ∧ (IsZip h z TI TO .none ∨ ∃ T f vs, IsZipHeld h z TI TO T f ∧ H T = some (.tup vs))
section
variable {X : Cx} {pins : List (Addr × Obj)} {σ : L2.St} {H0 H : Hp} {s : Shared} {z TI TO i1 i2 S : Addr} {a b : Src} {xs ys : List V} {A : Around}
theorem zst_next {E : Value → Shared → Prop} {Q : Option Value → Shared → Prop} {i : Nat} (hh : A.in1.handled = none) (Sp : ZipSep2 z TI TO i1 i2 [i1, a.ad] [i2, b.ad]) (m1 : a.ad ≠ i1) (m2 : b.ad ≠ i2) (I : Inv X pins σ H s) (hf : ∀ c ∈ [z, TI, TO, i1, i2], FpOk X pins H c)
    (st : ZSt z TI TO i1 i2 a b i H s.heap) (q1 : SqS X.K H a xs) (q2 : SqS X.K H b ys) (l1 : i < xs.length) (l2 : i < ys.length)
    (k : ∀ h' tk T x y, H T = none → s.heap.objs.size ≤ T → (xs.zip ys)[i]? = some (x, y) → Inv X pins σ (upd H T (.tup [x, y])) { s with heap := h', toks := tk } → ZSt z TI TO i1 i2 a b (i + 1) (upd H T (.tup [x, y])) h' →
      (∀ c o, c ∉ [z, TI, TO, i1, i2] → s.heap.get? c = some o → h'.get? c = some o) → Q (some (.ref T)) { s with heap := h', toks := tk }) :
    wpAny (model X.prog X.w) A (pyNext (.ref z)) Q E s := by
  obtain ⟨its, r1, a1, z1, _⟩ := Inv.src I q1
  obtain ⟨jts, r2, a2, z2, _⟩ := Inv.src I q2
  obtain ⟨hTI, j1, j2, ⟨u, v, hTO⟩, hz⟩ := st
  have D1 := drawS (prog := X.prog) (w := X.w) (A := A.in1) hh i1 a m1 its.toArray
  have D2 := drawS (prog := X.prog) (w := X.w) (A := A.in1) hh i2 b m2 jts.toArray
  have c1 : i < its.toArray.size := by have := r1.length; simp only [List.size_toArray]; omega
  have c2 : i < jts.toArray.size := by have := r2.length; simp only [List.size_toArray]; omega
  have hT : H s.heap.objs.size = none := I.hok.fresh (Nat.le_refl _)
  have fin : ∀ (u v : Value) (h' : Heap) (tk : Nat), its.toArray[i]? = some u → jts.toArray[i]? = some v → IsTupOf2 h' TI (.ref i1) (.ref i2) → itS h' i1 a (i + 1) → itS h' i2 b (i + 1) → (∃ x y, IsTupOf2 h' TO x y) →
      IsTupOf2 h' s.heap.objs.size u v → (∀ c o, c ∉ [z, TI, TO, i1, i2] → s.heap.get? c = some o → h'.get? c = some o) →
      (∀ x y, ∃ T f vs, IsZipHeld h' z TI TO T f ∧ upd H s.heap.objs.size (.tup [x, y]) T = some (.tup vs)) → Q (some (.ref s.heap.objs.size)) { s with heap := h', toks := tk } := by
    intro u v h' tk e1 e2 g1 g2 g3 gO g4 g5 g6
    obtain ⟨x, f1, rx⟩ := vals_get r1 e1
    obtain ⟨y, f2, ry⟩ := vals_get r2 e2
    have new : ObjOk X.prog X.w (upd H s.heap.objs.size (.tup [x, y])) h' s.heap.objs.size (.tup [x, y]) := ⟨by show 2 ≤ sizeLine; decide, [u, v], .cons rx (.cons ry .nil), ⟨_, g4, rfl, _, rfl⟩⟩
    exact k h' tk _ x y hT (Nat.le_refl _) (by rw [List.getElem?_zip_eq_some]; exact ⟨f1, f2⟩) (I.turnedNew g5 hf (Nat.le_refl _) new) ⟨g1, g2, g3, gO, .inr (g6 x y)⟩ g5
  rcases hz with hz | ⟨T, f, vs, hz, hTH⟩
  · refine wpAny_pyNext_zipD2_item Sp D1 D2 hz hTI hTO ⟨j1, a1⟩ ⟨j2, a2⟩ c1 c2 fun x y h' tk p1 p2 b1 b2 d1 d2 b5 b6 hk => ?_
    exact fin x y h' tk p1 p2 (hk _ _ Sp.TIz Sp.TITO Sp.TIi1 Sp.TIi2 hTI) d1.1 d2.1 ⟨_, _, b2⟩ b5 (fun c o hc e => hk c o (fun w => hc (by simp [w])) (fun w => hc (by simp [w])) (fun w => hc (by simp [w])) (fun w => hc (by simp [w])) e)
      fun x y => ⟨_, false, _, b1, upd_same⟩
  · obtain ⟨ts, _, ⟨oT, hoT, _⟩, _⟩ := I.tuple (xs := vs) (.inl (.inl hTH))
    refine next_zipHeld Sp D1 D2 hz hoT hTI ⟨j1, a1⟩ ⟨j2, a2⟩ c1 c2 fun x y h' tk p1 p2 b1 d1 d2 b5 hk => ?_
    exact fin x y h' tk p1 p2 (hk _ _ Sp.TIz Sp.TIi1 Sp.TIi2 hTI) d1.1 d2.1 ⟨_, _, hk _ _ Sp.TOz Sp.Ti1 Sp.Ti2 hTO⟩ b5 (fun c o hc e => hk c o (fun w => hc (by simp [w])) (fun w => hc (by simp [w])) (fun w => hc (by simp [w])) e)
      fun x y => ⟨T, true, vs, b1, (upd_ne (ne_of_none hTH hT)).trans hTH⟩
theorem zst_end {E : Value → Shared → Prop} {Q : Option Value → Shared → Prop} (hh : A.in1.handled = none) (Sp : ZipSep2 z TI TO i1 i2 [i1, a.ad] [i2, b.ad]) (m1 : a.ad ≠ i1) (m2 : b.ad ≠ i2) (I : Inv X pins σ H s) (hf : ∀ c ∈ [z, TI, TO, i1, i2], FpOk X pins H c)
    (st : ZSt z TI TO i1 i2 a b (min xs.length ys.length) H s.heap) (q1 : SqS X.K H a xs) (q2 : SqS X.K H b ys)
    (k : ∀ h' tk, Inv X pins σ H { s with heap := h', toks := tk } → (∀ c o, c ∉ [z, TI, TO, i1, i2] → s.heap.get? c = some o → h'.get? c = some o) → Q none { s with heap := h', toks := tk }) :
    wpAny (model X.prog X.w) A (pyNext (.ref z)) Q E s := by
  obtain ⟨its, r1, a1, z1, _⟩ := Inv.src I q1
  obtain ⟨jts, r2, a2, z2, _⟩ := Inv.src I q2
  obtain ⟨hTI, j1, j2, ⟨u, v, hTO⟩, hz⟩ := st
  have D1 := drawS (prog := X.prog) (w := X.w) (A := A.in1) hh i1 a m1 its.toArray
  have D2 := drawS (prog := X.prog) (w := X.w) (A := A.in1) hh i2 b m2 jts.toArray
  have e1 : its.toArray.size = xs.length := by have := r1.length; simp only [List.size_toArray]; omega
  have e2 : jts.toArray.size = ys.length := by have := r2.length; simp only [List.size_toArray]; omega
  rcases hz with hz | ⟨T, f, vs, hz, hTH⟩
  · refine wpAny_pyNext_zipD2_end Sp D1 D2 hz hTI hTO ⟨j1, a1⟩ ⟨j2, a2⟩ (by omega) (by omega) (by omega) fun h' tk hk => ?_
    have g5 : ∀ c o, c ∉ [z, TI, TO, i1, i2] → s.heap.get? c = some o → h'.get? c = some o := fun c o hc e => hk c o (fun w => hc (by simp [w])) (fun w => hc (by simp [w])) (fun w => hc (by simp [w])) (fun w => hc (by simp [w])) e
    exact k h' tk (I.turnedL g5 hf) g5
  · obtain ⟨ts, _, ⟨oT, hoT, _⟩, _⟩ := I.tuple (xs := vs) (.inl (.inl hTH))
    refine next_zipHeldEnd Sp D1 D2 hz hoT hTI ⟨j1, a1⟩ ⟨j2, a2⟩ (by omega) (by omega) (by omega) fun h' tk hk => ?_
    have g5 : ∀ c o, c ∉ [z, TI, TO, i1, i2] → s.heap.get? c = some o → h'.get? c = some o := fun c o hc e => hk c o (fun w => hc (by simp [w])) (fun w => hc (by simp [w])) (fun w => hc (by simp [w])) e
    exact k h' tk (I.turnedL g5 hf) g5
theorem ZSt.at {i : Nat} {h h' : Heap} (st : ZSt z TI TO i1 i2 a b i H h) (k : ∀ c o, c ∈ [z, TI, TO, i1, i2] → h.get? c = some o → h'.get? c = some o) : ZSt z TI TO i1 i2 a b i H h' := by
  obtain ⟨hTI, j1, j2, ⟨u, v, hTO⟩, hz⟩ := st
  refine ⟨k _ _ (by simp) hTI, itS_at j1 fun o q => k _ _ (by simp) q, itS_at j2 fun o q => k _ _ (by simp) q, ⟨u, v, k _ _ (by simp) hTO⟩, ?_⟩
  rcases hz with hz | ⟨T, f, vs, hz, hTH⟩
  · exact .inl (k _ _ (by simp) hz)
  · exact .inr ⟨T, f, vs, k _ _ (by simp) hz, hTH⟩
/-- list.extend's loop over a zip -/
theorem zip_loop {R : Result → Shared → Prop} {res : Value} (hh : A.in1.in1.handled = none) (Sp : ZipSep2 z TI TO i1 i2 [i1, a.ad] [i2, b.ad]) (m1 : a.ad ≠ i1) (m2 : b.ad ≠ i2) (Sn : S ∉ [z, TI, TO, i1, i2])
    (p1 : SqS X.K H0 a xs) (p2 : SqS X.K H0 b ys) (hle : xs.length ≤ sizeLine)
    (hR : ∀ s' H ts acc c, Grown H0 (xs.zip ys) ts H → Inv X pins σ H s' → FpOk X pins H S → s'.heap.get? S = some { cls := .type "list", dict := none, data := .seq acc c, slots := #[] } → Vals ts acc.toList → R (.ok (.ret res)) s') :
    ∀ (k i : Nat) (s : Shared) (H : Hp) (ts : List V) (acc : Array Value) (c : Nat), min xs.length ys.length - i = k → i ≤ min xs.length ys.length → Grown H0 ((xs.zip ys).take i) ts H → Inv X pins σ H s → (∀ c ∈ [z, TI, TO, i1, i2], FpOk X pins H c) → FpOk X pins H S →
      s.heap.get? S = some { cls := .type "list", dict := none, data := .seq acc c, slots := #[] } → Vals ts acc.toList → ZSt z TI TO i1 i2 a b i H s.heap →
      codeAny (model X.prog X.w) A (.builtin "list.extend.loop" ⟨[.ref S, .ref z, res], []⟩) R s := by
  intro k
  induction k with
  | zero =>
    intro i s H ts acc c hk hi g I hf hfS hS hv st
    obtain rfl : i = min xs.length ys.length := by omega
    refine codeAny_builtin F.entry_extend_loop ?_
    rw [Around.under_plainId F.plain_extend_loop _]
    show wpAny _ A.in1 (pyNext (.ref z) >>= _) _ _ s
    refine wpAny_bind (zst_end hh Sp m1 m2 I hf st (SqS.mono p1 g.sub) (SqS.mono p2 g.sub) fun h' tk I' hk' => wpAny_pure ?_)
    rw [List.take_of_length_le (by rw [List.length_zip]; exact Nat.le_refl _)] at g
    exact hR _ H ts acc c g I' hfS (hk' S _ Sn hS) hv
  | succ k ih =>
    intro i s H ts acc c hk hi g I hf hfS hS hv st
    have li : i < min xs.length ys.length := by omega
    refine codeAny_builtin F.entry_extend_loop ?_
    rw [Around.under_plainId F.plain_extend_loop _]
    show wpAny _ A.in1 (pyNext (.ref z) >>= _) _ _ s
    refine wpAny_bind (zst_next hh Sp m1 m2 I hf st (SqS.mono p1 g.sub) (SqS.mono p2 g.sub) (by omega) (by omega) fun h' tk T x y hT hTs hxy I' st' hk' => ?_)
    have hS' := hk' S _ Sn hS
    have lS : ∀ c, c ∈ [z, TI, TO, i1, i2] → c ≠ S := fun c hc e => Sn (e ▸ hc)
    have sz : acc.size = i := by
      have e1 := hv.length
      have e2 := g.len
      rw [List.length_take, List.length_zip] at e2
      rw [← Array.length_toList]
      omega
    have neS : S ≠ T := Nat.ne_of_lt (Nat.lt_of_lt_of_le (Heap.lt_size hS) hTs)
    have oth : ∀ c o, c ≠ S → h'.get? c = some o → (h'.update S (Obj.mapSeq (·.push (.ref T)))).get? c = some o := fun c o hc e => (Heap.get?_update_other _ _ (Ne.symm hc)).trans e
    show wpAny _ A.in1 (updateSeq S (·.push (.ref T)) >>= _) _ _ _
    refine wpAny_bind (wpAny_updateSeq hS' rfl (wpAny_pure ⟨plainId_quiet F.plain_extend_loop _, ?_⟩) (by rw [sz]; omega) (by show (acc.push _).size ≤ sizeLine + 1; rw [Array.size_push, sz]; omega))
    refine ih (i + 1) _ (upd H T (.tup [x, y])) (ts ++ [.ref T]) (acc.push (.ref T)) _ (by omega) li ?_ (I'.turnedL (t' := tk) (ch := [S]) (fun c o hc e => oth c o (fun w => hc (by rw [w]; exact List.mem_singleton.mpr rfl)) e) fun c hc => by rw [List.mem_singleton.mp hc]; exact FpOk.new hfS neS) ?_ (FpOk.new hfS neS) (Heap.get?_update_self _ hS' rfl) ?_ (ZSt.at st' fun c o hc e => oth c o (lS c hc) e)
    · have e : (xs.zip ys).take (i + 1) = (xs.zip ys).take i ++ [(x, y)] := by rw [List.take_add_one, hxy]; rfl
      rw [e]
      exact .snoc g hT
    · intro c hc
      refine FpOk.new (hf c hc) ?_
      have : ∃ o, s.heap.get? c = some o := by
        obtain ⟨hTI, j1, j2, ⟨u, v, hTO⟩, hz⟩ := st
        have e' : c = z ∨ c = TI ∨ c = TO ∨ c = i1 ∨ c = i2 := by simpa using hc
        rcases e' with q | q | q | q | q
        · rcases hz with hz | ⟨T, f, vs, hz, hTH⟩
          · rw [q]; exact ⟨_, hz⟩
          · rw [q]; exact ⟨_, hz⟩
        · rw [q]; exact ⟨_, hTI⟩
        · rw [q]; exact ⟨_, hTO⟩
        · rw [q]; exact let ⟨o, e, _⟩ := itS_obj j1; ⟨o, e⟩
        · rw [q]; exact let ⟨o, e, _⟩ := itS_obj j2; ⟨o, e⟩
      obtain ⟨o, ho⟩ := this
      exact Nat.ne_of_lt (Nat.lt_of_lt_of_le (Heap.lt_size ho) hTs)
    · rw [Array.toList_push]
      exact hv.append (.cons rfl .nil)

/-- list(z) of a zip that has not begun -/
theorem call_list_zip {Q : Value → Shared → Prop} {E : Value → Shared → Prop} (hh : A.handled = none) (Sp : ZipSep2 z TI TO i1 i2 [i1, a.ad] [i2, b.ad]) (m1 : a.ad ≠ i1) (m2 : b.ad ≠ i2)
    (I : Inv X pins σ H s) (p1 : SqS X.K H a xs) (p2 : SqS X.K H b ys) (hle : xs.length ≤ sizeLine) (hf : ∀ c ∈ [z, TI, TO, i1, i2], FpOk X pins H c) (hz : IsZip s.heap z TI TO .none) (st : ZSt z TI TO i1 i2 a b 0 H s.heap)
    (k : ∀ s' H' ts q, Grown H (xs.zip ys) ts H' → H' q = none → Inv X pins σ (upd H' q (.lst ts)) s' → Q (.ref q) s') :
    wpAny (model X.prog X.w) A (call (.type "list") [.ref z]) Q E s := by
  have lz : z < s.heap.objs.size := Heap.lt_size hz
  have nS : s.heap.objs.size ∉ [z, TI, TO, i1, i2] := fun hm => by
    obtain ⟨hTI, j1, j2, ⟨u, v, hTO⟩, _⟩ := st
    obtain ⟨o1, e1, _⟩ := itS_obj j1
    obtain ⟨o2, e2, _⟩ := itS_obj j2
    have e' : s.heap.objs.size = z ∨ s.heap.objs.size = TI ∨ s.heap.objs.size = TO ∨ s.heap.objs.size = i1 ∨ s.heap.objs.size = i2 := by simpa using hm
    rcases e' with q | q | q | q | q
    · exact Nat.ne_of_gt lz q
    · exact Nat.ne_of_gt (Heap.lt_size hTI) q
    · exact Nat.ne_of_gt (Heap.lt_size hTO) q
    · exact Nat.ne_of_gt (Heap.lt_size e1) q
    · exact Nat.ne_of_gt (Heap.lt_size e2) q
  have Sz : s.heap.objs.size ≠ z := Nat.ne_of_gt lz
  refine callType_codes (Q₁ := fun obj s1 => obj = .ref s.heap.objs.size ∧ s1 = { s with heap := s.heap.push { cls := .type "list", data := .seq #[] } }) F.called_list (F.typeCall_list_1 _) F.entry_list_init
    (code_list_new _ ⟨rfl, rfl⟩) fun obj s1 h1 => ?_
  obtain ⟨rfl, rfl⟩ := h1
  have hS : (s.heap.push { cls := .type "list", data := .seq #[] }).get? s.heap.objs.size = some { cls := .type "list", data := .seq #[] } := Heap.get?_push_size _ rfl
  refine ⟨⟨_, hS, rfl⟩, F.args_list_init_2 _ _, ?_⟩
  show wpAny _ A.in1.in1 (do let old ← Builtin.List.listItems (.ref s.heap.objs.size); Builtin.List.listUpdate (.ref s.heap.objs.size) (fun _ => #[]); letGo old.toList.reverse; Builtin.List.listExtendWith (.ref s.heap.objs.size) (.ref z) .none) _ _ _
  refine wpAny_bind ?_
  unfold Builtin.List.listItems
  refine wpAny_bind (wpAny_seqItems hS rfl (wpAny_pure ?_))
  show wpAny _ A.in1.in1 (updateSeq s.heap.objs.size (fun _ => #[]) >>= fun _ => letGo (#[] : Array Value).toList.reverse >>= fun _ => Builtin.List.listExtendWith (.ref s.heap.objs.size) (.ref z) .none) _ _ _
  refine wpAny_bind (wpAny_updateSeq hS rfl ?_)
  have hS2 := Heap.get?_update_self (Obj.mapSeq (fun _ => (#[] : Array Value))) hS rfl
  refine wpAny_bind (wpAny_letGo ?_)
  unfold Builtin.List.listExtendWith
  have up : ∀ (h : Heap) (f : Obj → Obj), (∀ b o, s.heap.get? b = some o → h.get? b = some o) → ∀ b o, s.heap.get? b = some o → (h.update s.heap.objs.size f).get? b = some o := fun h f q b o e =>
    (Heap.get?_update_other _ _ (Ne.symm (Nat.ne_of_lt (Heap.lt_size e)))).trans (q b o e)
  have k1 : ∀ b o, s.heap.get? b = some o → (s.heap.push { cls := .type "list", data := .seq #[] }).get? b = some o := fun b o e => Heap.get?_push_of_some _ e
  have k2 := up _ (Obj.mapSeq (fun _ => (#[] : Array Value))) k1
  have zty : ∀ {t : Shared}, (∀ b o, s.heap.get? b = some o → t.heap.get? b = some o) → t.TypeIs (.ref z) "zip" := fun {t} q => ⟨_, q _ _ hz, rfl⟩
  refine wpAny_bind (wpAny_typeOf (zty k2) ?_)
  have t1 : Builtin.List.listSameRef (.ref s.heap.objs.size) (.ref z) = false := by simp [Builtin.List.listSameRef, Sz]
  have t2 : (Value.type "zip" == Value.type "list") = false := by decide
  have t3 : (Value.type "zip" == Value.type "tuple") = false := by decide
  simp only [t1, t2, t3, Bool.or_false, Bool.false_eq_true, if_false]
  refine wpAny_bind (wpAny_pyIter_zip (k2 _ _ hz) ?_)
  refine wpAny_bind (wpAny_holding ?_)
  unfold Builtin.List.listLengthHint
  refine wpAny_bind (wpAny_specialOf (zty k2) zip_noLen ?_)
  show wpAny _ A.in1.in1 (specialOf (Value.ref z) (Str.ofString "__length_hint__") >>= _) _ _ _
  refine wpAny_bind (wpAny_specialOf (zty k2) zip_noHint (wpAny_pure ?_))
  show wpAny _ A.in1.in1 (rule "list.extend.makes-room" >>= fun _ => Builtin.List.listTouch (.ref s.heap.objs.size) >>= fun _ => again (.builtin "list.extend.loop" ⟨[.ref s.heap.objs.size, .ref z, .none], []⟩)) _ _ _
  refine wpAny_bind (wpAny_rule (wpAny_bind ?_))
  show wpAny _ A.in1.in1 (updateSeq s.heap.objs.size (·.push .none) >>= fun _ => updateSeq s.heap.objs.size (·.pop)) _ _ _
  refine wpAny_bind (wpAny_updateSeq hS2 rfl ?_)
  have hS3 := Heap.get?_update_self (Obj.mapSeq (·.push Value.none)) hS2 rfl
  refine wpAny_updateSeq (hz := by seq_fits) hS3 rfl ?_
  have hS4 := Heap.get?_update_self (Obj.mapSeq (·.pop)) hS3 rfl
  have k4 := up _ (Obj.mapSeq (·.pop)) (up _ (Obj.mapSeq (·.push Value.none)) k2)
  refine wpAny_pure ⟨plainId_quiet F.plain_extend_loop _, ?_⟩
  refine zip_loop (A := A.in1) (X := X) (pins := pins) (σ := σ) hh Sp m1 m2 nS p1 p2 hle (fun s' H' ts acc c g I' fS e hv => ⟨rfl, k s' H' ts _ g fS.1 (Inv.track I' fS e hv ?_)⟩) _ 0 _ H [] #[] _ rfl (Nat.zero_le _) .nil (I.kept (t' := s.toks) k4) hf (I.fpOk (Nat.le_refl _) (I.hok.fresh (Nat.le_refl _))) hS4 .nil (ZSt.at st fun c o _ e => k4 c o e)
  have := g.len
  rw [List.length_zip] at this
  omega
end

def tListZ (K : PySem.W.Frag) (ta : TA) : TE := fun σ H Q => ta σ H fun vs H1 => ∃ (a b : Src) (xs ys : List V), vs = [.ref a.ad, .ref b.ad] ∧ SqS K H1 a xs ∧ SqS K H1 b ys ∧
  ∀ ts H2 q, Grown H1 (xs.zip ys) ts H2 → H2 q = none → Q (.ref q) (upd H2 q (.lst ts))
/-- list(zip(e, e2)) -/
theorem pe_listZ {X : Cx} {e e2 : Expr} {ta : TA} {p pos p2 pos2 : Pos} (hc : X.calm = true) (hl : Gl X "list") (hml : X.mg "list" = none) (hg : Gl X "zip") (hm : X.mg "zip" = none) (ha : PA X [e, e2] ta)
    (hs : starEach [e, e2] X.env = (false, eval e X.env) :: starEach [e2] X.env := by rfl) (hpl : (backTo pos2 (starEach [e2] X.env)).any (·.1) = false := by rfl)
    (h2 : starEach [.Call (.Name "zip" p2) [e, e2] [] pos2] X.env = (false, eval (.Call (.Name "zip" p2) [e, e2] [] pos2) X.env) :: starEach [] X.env := by rfl) :
    PE X (.Call (.Name "list" p) [.Call (.Name "zip" p2) [e, e2] [] pos2] [] pos) (tListZ X.K ta) := by
  refine ⟨fun pins s σ H Q I h => ?_⟩
  have inner : wpAny (model X.prog X.w) X.A (eval (.Call (.Name "zip" p2) [e, e2] [] pos2) X.env) (fun u s1 => ∃ (H1 : Hp) (z TI TO i1 i2 : Addr) (a b : Src) (xs ys : List V), u = .ref z ∧ ZipSep2 z TI TO i1 i2 [i1, a.ad] [i2, b.ad] ∧ a.ad ≠ i1 ∧ b.ad ≠ i2 ∧ Inv X pins σ H1 s1 ∧ SqS X.K H1 a xs ∧ SqS X.K H1 b ys ∧ xs.length ≤ sizeLine ∧
      (∀ c ∈ [z, TI, TO, i1, i2], FpOk X pins H1 c) ∧ IsZip s1.heap z TI TO .none ∧ ZSt z TI TO i1 i2 a b 0 H1 s1.heap ∧ ∀ ts H2 q, Grown H1 (xs.zip ys) ts H2 → H2 q = none → Q (.ref q) (upd H2 q (.lst ts))) X.xe s := by
    refine Call_ (ld_blt I hg hm PyProof.Rows.boot_zip (PyProof.Rows.callWith_type1 (thn (ha.run pos2 pins s σ H _ I h) fun us s1 ⟨vs, H1, I1, r1, q1⟩ => ?_) hs hpl))
    obtain ⟨a, b, xs, ys, ex, hqx, hqy, q⟩ := q1
    subst ex
    cases r1 with
    | cons r rr =>
      cases rr with
      | cons r' rr =>
        cases rr
        cases r
        cases r'
        obtain ⟨its, rv, p1, z1, la⟩ := Inv.src I1 hqx
        obtain ⟨its2, rv2, p2, z2, lb⟩ := Inv.src I1 hqy
        refine zip_begins2 (begS a its.toArray) (begS b its2.toArray) p1 p2 fun h' hz hTI hTO g1 g2 hsz hk => ?_
        refine ⟨H1, s1.heap.objs.size + 4, s1.heap.objs.size + 2, s1.heap.objs.size + 3, s1.heap.objs.size, s1.heap.objs.size + 1, a, b, xs, ys, rfl, zip_sep2 (fp1 := [a.ad]) (fp2 := [b.ad]) (fun c hc => by rw [List.mem_singleton.mp hc]; exact la) (fun c hc => by rw [List.mem_singleton.mp hc]; exact lb),
          Nat.ne_of_lt la, Nat.ne_of_lt (Nat.lt_succ_of_lt lb), I1.kept (t' := s1.toks) hk, hqx, hqy, z1, fun c hcm => ?_, hz, ⟨hTI, itS_new g1, itS_new g2, ⟨_, _, hTO⟩, .inl hz⟩, q⟩
        have e' : c = s1.heap.objs.size + 4 ∨ c = s1.heap.objs.size + 2 ∨ c = s1.heap.objs.size + 3 ∨ c = s1.heap.objs.size ∨ c = s1.heap.objs.size + 1 := by simpa using hcm
        have hle : s1.heap.objs.size ≤ c := by
          rcases e' with z | z | z | z | z <;> rw [z] <;> first | exact Nat.le_add_right _ _ | exact Nat.le_refl _
        exact I1.fpOk hle (I1.hok.fresh hle)
  refine Call_ (ld_blt I hl hml boot_list (PyProof.Rows.callWith_type1 (args_cons (thn inner fun u s1 ⟨H1, z, TI, TO, i1, i2, a, b, xs, ys, eu, Sp, m1, m2, I1, g1, g2, hle, hf, hz, st, q⟩ => args_nil ?_) h2) h2))
  subst eu
  exact call_list_zip (I1.ok.hd hc) Sp m1 m2 I1 g1 g2 hle hf hz st fun s' H2 ts r g n I2 => ⟨.ref r, _, I2, rfl, q ts H2 r g n⟩
end PL
set_option Elab.async false
set_option linter.all false
set_option maxRecDepth 100000
set_option maxHeartbeats 4000000
/-! PL2: list(zip(xs, ys)) as a function on contents. -/
namespace PL
open PySem PySem.Spec PyProof.Rows L2
theorem Bag.grown {R : RE} {e : En} {F H : Hp} {B : Bg} (hB : Bag R e F H B) {prs : List (V × V)} {ts : List V} {H2 : Hp} (g : Grown H prs ts H2) : ∀ qs : List PV, qs.length = prs.length → (∀ (i : Nat) (x y : V), prs[i]? = some (x, y) → ∃ p q : PV, qs[i]? = some (PV.tup [p, q]) ∧ Rp R F p x ∧ Rp R F q y) →
    ∃ F', Sub F F' ∧ Bag R e F' H2 B ∧ RpL R F' qs ts := by
  induction g with
  | nil =>
    intro qs hl _
    obtain rfl := List.length_eq_zero_iff.mp hl
    exact ⟨F, .refl, hB, .nil⟩
  | @snoc ps ts H1 T x y g n ih =>
    intro qs hl hq
    rw [List.length_append] at hl
    simp only [List.length_cons, List.length_nil] at hl
    obtain ⟨p, q, e1, rx, ry⟩ := hq ps.length x y (by rw [List.getElem?_append_right (Nat.le_refl _)]; simp)
    obtain ⟨F', m, B', r⟩ := ih (qs.take ps.length) (by rw [List.length_take]; omega) fun i u v h => by
      have hi := (List.getElem?_eq_some_iff.mp h).1
      obtain ⟨p', q', a, b, c⟩ := hq i u v (by rw [List.getElem?_append_left hi]; exact h)
      exact ⟨p', q', by rw [List.getElem?_take_of_lt hi]; exact a, b, c⟩
    have es : qs = qs.take ps.length ++ [PV.tup [p, q]] := by
      have := List.take_add_one (l := qs) (i := ps.length)
      rw [e1, List.take_of_length_le (by omega)] at this
      exact this
    have nF := (B'.new n).1
    refine ⟨upd F' T (.tup [x, y]), m.trans (sub_upd nF), B'.lay_ice n, ?_⟩
    rw [es]
    refine (r.mono (sub_upd nF)).append (.one (.tup (.inl upd_same) ?_))
    exact .cons ((rx.mono m).mono (sub_upd nF)) (.cons ((ry.mono m).mono (sub_upd nF)) .nil)
def eListZ (fs : PFs) : PF := fun ρ => (fs ρ).bind fun x => match x.1 with
  | [r, s] => (seqOf (tmpOf r)).bind fun xs => (seqOf (tmpOf s)).map fun ys => (.own (zipP xs ys), x.2)
  | _ => none
theorem eListZ_some {fs : PFs} {ρ ρ' : List Sl} {t : Sl} (q : eListZ fs ρ = some (t, ρ')) : ∃ r s xs ys, fs ρ = some ([r, s], ρ') ∧ seqOf (tmpOf r) = some xs ∧ seqOf (tmpOf s) = some ys ∧ t = .own (zipP xs ys) := by
  unfold eListZ at q
  rw [Option.bind_eq_some_iff] at q
  obtain ⟨⟨l, ρ1⟩, h1, q⟩ := q
  split at q
  · rename_i r s e1
    dsimp only at e1
    subst e1
    rw [Option.bind_eq_some_iff] at q
    obtain ⟨xs, h2, q⟩ := q
    rw [Option.map_eq_some_iff] at q
    obtain ⟨ys, h3, q⟩ := q
    cases q
    exact ⟨r, s, xs, ys, h1, h2, h3, rfl⟩
  · cases q
theorem stListZ {fs : PFs} {ρ ρ1 : List Sl} {r s : Sl} {xs ys : List PV} (h : fs ρ = some ([r, s], ρ1)) (h1 : seqOf (tmpOf r) = some xs) (h2 : seqOf (tmpOf s) = some ys) : eListZ fs ρ = some (.own (zipP xs ys), ρ1) := by
  unfold eListZ
  rw [h]
  simp only [Option.bind_some, h1, h2, Option.map_some]
section
variable {X : Cx} {R : RE} {a b : Expr} {fs : PFs} {p pos p2 pos2 : Pos}
theorem ev_listZ (hK : R.K = X.K) (hc : X.calm = true) (hl : Gl X "list") (hml : X.mg "list" = none) (hg : Gl X "zip") (hm : X.mg "zip" = none) (h : Av X R [a, b] fs)
    (hs : starEach [a, b] X.env = (false, eval a X.env) :: starEach [b] X.env := by rfl) (hpl : (backTo pos2 (starEach [b] X.env)).any (·.1) = false := by rfl)
    (h2 : starEach [.Call (.Name "zip" p2) [a, b] [] pos2] X.env = (false, eval (.Call (.Name "zip" p2) [a, b] [] pos2) X.env) :: starEach [] X.env := by rfl) :
    Ev X R (.Call (.Name "list" p) [.Call (.Name "zip" p2) [a, b] [] pos2] [] pos) (eListZ fs) := by
  refine ⟨fun ρ r ρ' q => ?_, pe_mono (pe_listZ hc hl hml hg hm h.pa hs hpl h2) fun σ H Q q => ?_⟩
  · obtain ⟨r, s, xs, ys, h1, _⟩ := eListZ_some q
    exact h.len _ _ _ h1
  · obtain ⟨e, F, ρ, tm, t, ρ', hl, hB, hf, k⟩ := q
    obtain ⟨r, s, xs, ys, h1, h2, h3, rfl⟩ := eListZ_some hf
    refine ⟨e, F, ρ, tm, _, ρ', hl, hB, h1, fun vs H1 F1 B1 k1 => ?_⟩
    match vs, Paired.len k1 with
    | [v1, v2], _ =>
      have e1 : ([r, s].map tmpOf).zip ([v1, v2].map some) = [(tmpOf r, some v1), (tmpOf s, some v2)] := rfl
      rw [e1] at B1
      have x1 : SlR R F1 H1 (tmpOf r) (some v1) := B1.mem (p := (tmpOf r, some v1)) (by simp)
      have x2 : SlR R F1 H1 (tmpOf s) (some v2) := B1.mem (p := (tmpOf s, some v2)) (by simp)
      obtain ⟨s1, ex1, kd1⟩ := src_of' x1 B1.sub h2
      obtain ⟨s2, ex2, kd2⟩ := src_of' x2 B1.sub h3
      subst ex1 ex2
      obtain ⟨ws1, hq1, hr1⟩ := src_now kd1 h2 x1 B1.sub
      obtain ⟨ws2, hq2, hr2⟩ := src_now kd2 h3 x2 B1.sub
      rw [hK] at hq1 hq2
      refine ⟨s1, s2, ws1, ws2, rfl, hq1, hq2, fun ts H2 q g n => ?_⟩
      rw [show ∀ A : Bg, A ++ [(tmpOf r, some (V.ref s1.ad)), (tmpOf s, some (V.ref s2.ad))] = (A ++ [(tmpOf r, some (V.ref s1.ad))]) ++ [(tmpOf s, some (V.ref s2.ad))] from fun A => by simp] at B1
      have B2 := B1.pop.pop
      obtain ⟨F', m, B3, rr⟩ := B2.grown g (zipP xs ys) (by rw [zipP_len, List.length_zip, hr1.length, hr2.length]) fun i x y hxy => by
        obtain ⟨a1, a2⟩ := List.getElem?_zip_eq_some.mp hxy
        obtain ⟨p, b1, c1⟩ := hr1.get a1
        obtain ⟨q, b2, c2⟩ := hr2.get a2
        exact ⟨p, q, zipP_get b1 b2, c1, c2⟩
      exact k _ _ F' (B3.new_lst n rr) pk_own
end
end PL
set_option Elab.async false
set_option linter.all false
set_option maxRecDepth 100000
set_option maxHeartbeats 4000000
/-! PL3: more steps. -/
namespace PL
open PySem
theorem stExtend {i : Nat} {f : PF} {ρ ρ1 : List Sl} {r : Sl} {xs0 xs ys : List PV} (h0 : ρ[i]? = some (.own xs0)) (h1 : f ρ = some (r, ρ1)) (c : cont ρ1 r = some (.lst ys)) (h3 : ρ1[i]? = some (.own xs)) (hl : xs.length + ys.length ≤ lineN) :
    eExtend i f ρ = some (.fz .non, ρ1.set i (.own (xs ++ ys))) := by
  unfold eExtend
  rw [h0]
  show (f ρ).bind _ = _
  rw [h1, Option.bind_some]
  show (cont ρ1 r).bind _ = _
  rw [c, Option.bind_some]
  show (match PV.lst ys, ρ1[i]? with
    | .lst ys, some (.own xs) => if xs.length + ys.length ≤ lineN then some (Sl.fz PV.non, ρ1.set i (.own (xs ++ ys))) else none
    | _, _ => none) = _
  rw [h3]
  exact if_pos hl
end PL
set_option Elab.async false
set_option linter.all false
set_option maxRecDepth 100000
set_option maxHeartbeats 4000000
namespace Wk24
open PySem PySem.Spec PyProof.Rows L2 PL
/-! the functions that the defs tell -/
def F__law_hand_l1 : PF := eLc (iSeq (eSl (ePk 0) oNone (oSome (eC (.int 63))))) [2] (gNm 2) tTrue (eNary clAbs (aCons (eNary clInt (aCons (ePk 2) aNil)) aNil))
/-- _law_hand: 0 script, 1 cells, 2 cell -/
def F__law_hand : FP := fnF 3 [false] (sSeq (sSet 1 F__law_hand_l1) (sRet (eLst (aCons (eVar 1) (aCons (eC (.int 0)) (aCons (eC (.int 0)) (aCons (eBin opAdd (eC (.int 1)) (eNary clLen (aCons (ePk 1) aNil))) (aCons (eC (.int 0)) aNil))))))))
/-- is_row: 0 thing -/
def F_is_row : FP := fnF 1 [false] (sRet (eNary clIsi (aCons (ePk 0) (aCons (eTup (aCons (eC (.ty .list)) (aCons (eC (.ty .tuple)) aNil))) aNil))))
/-- is_integer: 0 thing -/
def F_is_integer : FP := fnF 1 [false] (sRet (eAndF (eNary clIsi (aCons (ePk 0) (aCons (eC (.ty .int)) aNil))) (eNotF (eNary clIsi (aCons (ePk 0) (aCons (eC (.ty .bool)) aNil))))))
def F_check_makers_l1 : PF := eLc (iSeq (eVar 1)) [2] (gNm 2) tTrue (eCall F_is_integer (aCons (eVar 2) aNil))
def F_check_makers_b1 : PSF := sSeq (sIf (tOrF (tNotF (tOf (eCall F_is_row (aCons (eVar 1) aNil)))) (tOrF (tNotF (tOf (eChain opLe opLe (eC (.int 1)) (eNary clLen (aCons (ePk 1) aNil)) (eC (.int 8))))) (tOf (eBin opNe (eNary clLen (aCons (ePk 1) aNil)) (eNary clLen (aCons (eBin opIx (ePk 0) (eC (.int 0))) aNil)))))) sNever sNil) (sIf (tNotF (tOf (eNary clAll (aCons F_check_makers_l1 aNil)))) sNever sNil)
def F_check_makers_f1 : PSF := sFor (iSeq (eVar 0)) (gNm 1) F_check_makers_b1
/-- check_makers: 0 rows, 1 row, 2 one -/
def F_check_makers : FP := fnF 3 [false] (sSeq (sIf (tOrF (tNotF (tOf (eCall F_is_row (aCons (eVar 0) aNil)))) (tNotF (tOf (eChain opLe opLe (eC (.int 1)) (eNary clLen (aCons (ePk 0) aNil)) (eC (.int 8)))))) sNever sNil) F_check_makers_f1)
def F_spread_l1 : PF := eLc (iSeq (eVar 0)) [1] (gNm 1) tTrue (eBin opSub (eNary clMax2 (aCons (ePk 1) aNil)) (eNary clMin2 (aCons (ePk 1) aNil)))
/-- spread: 0 rows, 1 row -/
def F_spread : FP := fnF 2 [false] (sRet (eBin opMul (eNary clSum2 (aCons F_spread_l1 aNil)) (eNary clLen (aCons (eBin opIx (ePk 0) (eC (.int 0))) aNil))))
def F_are_integers_l1 : PF := eLc (iSeq (eVar 0)) [2] (gNm 2) tTrue (eCall F_is_integer (aCons (eVar 2) aNil))
/-- are_integers: 0 thing, 1 many, 2 one -/
def F_are_integers : FP := fnF 3 [false, false] (sRet (eAndF (eCall F_is_row (aCons (eVar 0) aNil)) (eAndF (eBin opEq (eNary clLen (aCons (ePk 0) aNil)) (ePk 1)) (eNary clAll (aCons F_are_integers_l1 aNil)))))
def F_made_l1 : PF := eLc (iSeq (eVar 2)) [4, 5] (gTp (gsCons (gNm 4) (gsCons (gNm 5) gsNil))) tTrue (eBin opAdd (eBin opIx (ePk 4) (ePk 3)) (ePk 5))
def F_made_l2 : PF := eLc (iRange1 (eNary clLen (aCons (eBin opIx (ePk 0) (eC (.int 0))) aNil))) [3] (gNm 3) tTrue (eNary clMax2 (aCons F_made_l1 aNil))
/-- made: 0 rows, 1 shifts, 2 pairs, 3 at, 4 maker, 5 number -/
def F_made : FP := fnF 6 [false, false] (sSeq (sExpr (eCall F_check_makers (aCons (eVar 0) aNil))) (sSeq (sIf (tNotF (tOf (eCall F_are_integers (aCons (eVar 1) (aCons (eNary clLen (aCons (ePk 0) aNil)) aNil))))) sNever sNil) (sSeq (sSet 2 (eListZ (aCons (eVar 0) (aCons (eVar 1) aNil)))) (sRet (eNary clTuple (aCons F_made_l2 aNil))))))
/-- check_like: 0 rows, 1 row -/
def F_check_like : FP := fnF 2 [false, false] (sSeq (sExpr (eCall F_check_makers (aCons (eVar 0) aNil))) (sIf (tNotF (tOf (eCall F_are_integers (aCons (eVar 1) (aCons (eNary clLen (aCons (eBin opIx (ePk 0) (eC (.int 0))) aNil)) aNil))))) sNever sNil))
def F_greatest_shifts_l1 : PF := eLc (iZip2 (aCons (eVar 2) (aCons (eVar 1) aNil))) [3, 4] (gTp (gsCons (gNm 3) (gsCons (gNm 4) gsNil))) tTrue (eBin opSub (ePk 4) (ePk 3))
def F_greatest_shifts_l2 : PF := eLc (iSeq (eVar 0)) [2] (gNm 2) tTrue (eNary clMin2 (aCons F_greatest_shifts_l1 aNil))
/-- greatest_shifts: 0 rows, 1 row, 2 maker, 3 one, 4 goal -/
def F_greatest_shifts : FP := fnF 5 [false, false] (sSeq (sExpr (eCall F_check_like (aCons (eVar 0) (aCons (eVar 1) aNil)))) (sRet (eNary clTuple (aCons F_greatest_shifts_l2 aNil))))
/-- nearest: 0 rows, 1 row -/
def F_nearest : FP := fnF 2 [false, false] (sRet (eCall F_made (aCons (eVar 0) (aCons (eCall F_greatest_shifts (aCons (eVar 0) (aCons (eVar 1) aNil))) aNil))))
def F_common_row_b1 : PSF := sSeq (sIf (tOf (eBin opLt (eNary clMin2 (aCons (ePk 2) aNil)) (ePk 3))) (sRet (eC .non)) sNil) (sSeq (sSet 5 (eCall F_nearest (aCons (eVar 1) (aCons (eVar 2) aNil)))) (sSeq (sSet 6 (eCall F_nearest (aCons (eVar 0) (aCons (eVar 5) aNil)))) (sSeq (sIf (tOf (eBin opEq (ePk 6) (ePk 2))) (sRet (eVar 2)) sNil) (sSet 2 (eVar 6)))))
def F_common_row_f1 : PSF := sFor (iRange1 (eC (.int 2000))) (gNm 4) F_common_row_b1
/-- common_row: 0 one, 1 other, 2 here, 3 bottom, 4 turn, 5 there, 6 later -/
def F_common_row : FP := fnF 7 [false, false] (sSeq (sExpr (eCall F_check_makers (aCons (eVar 0) aNil))) (sSeq (sExpr (eCall F_check_makers (aCons (eVar 1) aNil))) (sSeq (sIf (tOf (eBin opNe (eNary clLen (aCons (eBin opIx (ePk 0) (eC (.int 0))) aNil)) (eNary clLen (aCons (eBin opIx (ePk 1) (eC (.int 0))) aNil)))) sNever sNil) (sSeq (sSet 2 (eNary clTuple (aCons (eBin opIx (ePk 0) (eC (.int 0))) aNil))) (sSeq (sSet 3 (eBin opSub (eBin opSub (eBin opSub (eNary clMin2 (aCons (ePk 2) aNil)) (eCall F_spread (aCons (eVar 0) aNil))) (eCall F_spread (aCons (eVar 1) aNil))) (eC (.int 1)))) (sSeq F_common_row_f1 sNever))))))
/-- _law_draw: 0 hand, 1 bound, 2 cell, 3 digit, 4 number -/
def F__law_draw : FP := fnF 5 [false, false] (sSeq (sIf (tAndF (tOf (eBin opEq (eBin opIx (ePk 0) (eC (.int 2))) (eC (.int 0)))) (tOf (eBin opLt (eBin opIx (ePk 0) (eC (.int 1))) (eNary clLen (aCons (eBin opIx (ePk 0) (eC (.int 0))) aNil))))) (sSeq (sSet 2 (eBin opIx (eBin opIx (ePk 0) (eC (.int 0))) (eBin opIx (ePk 0) (eC (.int 1))))) (sSeq (sSetIx 0 (eBin opAdd (eBin opIx (ePk 0) (eC (.int 1))) (eC (.int 1))) (eC (.int 1))) (sSeq (sSetIx 0 (eBin opMod (eNary clInt (aCons (eBin opAdd (eBin opAdd (eBin opMul (eBin opIx (ePk 0) (eC (.int 3))) (eC (.int 69621))) (ePk 2)) (eC (.int 11))) aNil)) (eC (.int 2147483629))) (eC (.int 3))) (sIf (tOf (eBin opGe (ePk 2) (eBin opPow (eC (.int 10)) (eC (.int 18))))) (sSetIx 0 (eVar 2) (eC (.int 2))) sNil)))) sNil) (sSeq (sIf (tOf (eBin opGt (eBin opIx (ePk 0) (eC (.int 2))) (eC (.int 0)))) (sSeq (sSet 3 (eBin opMod (eNary clInt (aCons (eBin opIx (ePk 0) (eC (.int 2))) aNil)) (ePk 1))) (sSeq (sSetIx 0 (eBin opFdiv (eBin opIx (ePk 0) (eC (.int 2))) (ePk 1)) (eC (.int 2))) (sRet (eVar 3)))) sNil) (sSeq (sSetIx 0 (eBin opAdd (eBin opIx (ePk 0) (eC (.int 4))) (eC (.int 1))) (eC (.int 4))) (sSeq (sSet 4 (eBin opMod (eNary clInt (aCons (eBin opMul (eNary clInt (aCons (eBin opAdd (eBin opIx (ePk 0) (eC (.int 3))) (eBin opMul (eC (.int 7919)) (eBin opIx (ePk 0) (eC (.int 4))))) aNil)) (eC (.int 48271))) aNil)) (eC (.int 2147483647)))) (sSeq (sSet 4 (eBin opMod (eNary clInt (aCons (eBin opMul (ePk 4) (eBin opAdd (eBin opFdiv (ePk 4) (eC (.int 1009))) (eC (.int 69621)))) aNil)) (eC (.int 2147483647)))) (sSeq (sSet 4 (eBin opMod (eNary clInt (aCons (eBin opMul (ePk 4) (eBin opAdd (eBin opFdiv (ePk 4) (eC (.int 2003))) (eC (.int 40692)))) aNil)) (eC (.int 2147483399)))) (sRet (eBin opMod (eNary clInt (aCons (eBin opFdiv (ePk 4) (eC (.int 16))) aNil)) (ePk 1)))))))))
def F__law_makers_l1 : PF := eLc (iRange1 (ePk 1)) [3] (gNm 3) tTrue (eBin opSub (eCall F__law_draw (aCons (eBor 0) (aCons (eC (.int 9)) aNil))) (eC (.int 3)))
def F__law_makers_l2 : PF := eLc (iRange1 (eBin opAdd (eC (.int 1)) (eCall F__law_draw (aCons (eBor 0) (aCons (eC (.int 3)) aNil))))) [2] (gNm 2) tTrue (eNary clTuple (aCons F__law_makers_l1 aNil))
/-- _law_makers: 0 hand, 1 wide, 2 a, 3 b -/
def F__law_makers : FP := fnF 4 [false, false] (sRet (eNary clTuple (aCons F__law_makers_l2 aNil)))
def F__law_spread_l1 : PF := eLc (iSeq (eBin opAdd (ePk 0) (ePk 1))) [2] (gNm 2) tTrue (eBin opSub (eNary clMax2 (aCons (ePk 2) aNil)) (eNary clMin2 (aCons (ePk 2) aNil)))
/-- _law_spread: 0 makers, 1 others, 2 row -/
def F__law_spread : FP := fnF 3 [false, false] (sRet (eNary clMax2 (aCons (eBin opAdd (eLst (aCons (eC (.int 0)) aNil)) F__law_spread_l1) aNil)))
def F__law_every_l1 : PF := eLc (iRange2 (ePk 0) (eBin opAdd (ePk 1) (eC (.int 1)))) [7] (gNm 7) tTrue (eBin opAdd (ePk 6) (eTup (aCons (eVar 7) aNil)))
def F__law_every_b1 : PSF := sExpr (eExtend 5 F__law_every_l1)
def F__law_every_f1 : PSF := sFor (iSeq (eVar 3)) (gNm 6) F__law_every_b1
def F__law_every_b2 : PSF := sSeq (sSet 5 (eLst aNil)) (sSeq F__law_every_f1 (sSet 3 (eVar 5)))
def F__law_every_f2 : PSF := sFor (iRange1 (ePk 2)) (gNm 4) F__law_every_b2
/-- _law_every: 0 low, 1 high, 2 many, 3 found, 4 lap, 5 longer, 6 some, 7 number -/
def F__law_every : FP := fnF 8 [false, false, false] (sSeq (sSet 3 (eLst (aCons (eTup aNil) aNil))) (sSeq F__law_every_f2 (sRet (eVar 3))))
def F__law_made_l1 : PF := eLc (iZip2 (aCons (eVar 0) (aCons (eVar 1) aNil))) [4, 5] (gTp (gsCons (gNm 4) (gsCons (gNm 5) gsNil))) tTrue (eBin opAdd (eBin opIx (ePk 4) (ePk 3)) (ePk 5))
def F__law_made_b1 : PSF := sExpr (eAppend 2 (eNary clMax2 (aCons F__law_made_l1 aNil)))
def F__law_made_f1 : PSF := sFor (iRange1 (eNary clLen (aCons (eBin opIx (ePk 0) (eC (.int 0))) aNil))) (gNm 3) F__law_made_b1
/-- _law_made: 0 makers, 1 shifts, 2 found, 3 at, 4 maker, 5 shift -/
def F__law_made : FP := fnF 6 [false, false] (sSeq (sSet 2 (eLst aNil)) (sSeq F__law_made_f1 (sRet (eNary clTuple (aCons (ePk 2) aNil)))))
def F__law_shifts_l1 : PF := eLc (iZip2 (aCons (eVar 2) (aCons (eVar 1) aNil))) [3, 4] (gTp (gsCons (gNm 3) (gsCons (gNm 4) gsNil))) tTrue (eBin opSub (ePk 4) (ePk 3))
def F__law_shifts_l2 : PF := eLc (iSeq (eVar 0)) [2] (gNm 2) tTrue (eNary clMin2 (aCons F__law_shifts_l1 aNil))
/-- _law_shifts: 0 makers, 1 row, 2 maker, 3 a, 4 b -/
def F__law_shifts : FP := fnF 5 [false, false] (sRet (eNary clTuple (aCons F__law_shifts_l2 aNil)))
/-- _law_near: 0 makers, 1 row -/
def F__law_near : FP := fnF 2 [false, false] (sRet (eCall F__law_made (aCons (eVar 0) (aCons (eCall F__law_shifts (aCons (eVar 0) (aCons (eVar 1) aNil))) aNil))))
/-- _law_is_made: 0 makers, 1 row -/
def F__law_is_made : FP := fnF 2 [false, false] (sRet (eBin opEq (eCall F__law_near (aCons (eVar 0) (aCons (eVar 1) aNil))) (ePk 1)))
def F__law_has_common_b1 : PSF := sIf (tAndF (tOf (eCall F__law_is_made (aCons (eVar 0) (aCons (eBin opAdd (eTup (aCons (eC (.int 0)) aNil)) (ePk 3)) aNil)))) (tOf (eCall F__law_is_made (aCons (eVar 1) (aCons (eBin opAdd (eTup (aCons (eC (.int 0)) aNil)) (ePk 3)) aNil))))) (sRet (eC (.bl true))) sNil
def F__law_has_common_f1 : PSF := sFor (iSeq (eCall F__law_every (aCons (eBin opSub (eC (.int 0)) (ePk 2)) (aCons (eVar 2) (aCons (eBin opSub (eNary clLen (aCons (eBin opIx (ePk 0) (eC (.int 0))) aNil)) (eC (.int 1))) aNil))))) (gNm 3) F__law_has_common_b1
/-- _law_has_common: 0 makers, 1 others, 2 far, 3 row -/
def F__law_has_common : FP := fnF 4 [false, false] (sSeq (sSet 2 (eCall F__law_spread (aCons (eVar 0) (aCons (eVar 1) aNil)))) (sSeq F__law_has_common_f1 (sRet (eC (.bl false)))))
/-- is_in_span: 0 rows, 1 row -/
def F_is_in_span : FP := fnF 2 [false, false] (sRet (eBin opEq (eCall F_made (aCons (eVar 0) (aCons (eCall F_greatest_shifts (aCons (eVar 0) (aCons (eVar 1) aNil))) aNil))) (eNary clTuple (aCons (ePk 1) aNil))))
def F_law_l1 : PF := eLc (iSeq (eVar 4)) [7] (gNm 7) tTrue (eCall F__law_draw (aCons (eBor 1) (aCons (eC (.int 5)) aNil)))
def F_law_b1 : PSF := sSeq (sSet 3 (eBin opAdd (eC (.int 1)) (eCall F__law_draw (aCons (eBor 1) (aCons (eC (.int 3)) aNil))))) (sSeq (sPar 4 5 (aCons (eCall F__law_makers (aCons (eBor 1) (aCons (eVar 3) aNil))) (aCons (eCall F__law_makers (aCons (eBor 1) (aCons (eVar 3) aNil))) aNil))) (sSeq (sIf (tOf (eBin opEq (eCall F__law_draw (aCons (eBor 1) (aCons (eC (.int 3)) aNil))) (eC (.int 0)))) (sSet 5 (eBin opAdd (eSl (ePk 5) oNone (oSome (eC (.int 2)))) (eTup (aCons (eCall F_made (aCons (eVar 4) (aCons (eNary clTuple (aCons F_law_l1 aNil)) aNil))) aNil)))) sNil) (sSeq (sSet 6 (eCall F_common_row (aCons (eVar 4) (aCons (eVar 5) aNil)))) (sSeq (sIf (tOf (eBin opNe (eBin opIsNot (ePk 6) (eC .non)) (eCall F__law_has_common (aCons (eVar 4) (aCons (eVar 5) aNil))))) (sRet (eC (.bl false))) sNil) (sSeq (sIf (tOf (eBin opNe (eBin opIs (eCall F_common_row (aCons (eVar 5) (aCons (eVar 4) aNil))) (eC .non)) (eBin opIs (ePk 6) (eC .non)))) (sRet (eC (.bl false))) sNil) (sSeq (sIf (tOf (eBin opIsNot (ePk 6) (eC .non))) (sSeq (sIf (tOrF (tNotF (tOf (eCall F__law_is_made (aCons (eVar 4) (aCons (eNary clTuple (aCons (ePk 6) aNil)) aNil))))) (tNotF (tOf (eCall F__law_is_made (aCons (eVar 5) (aCons (eNary clTuple (aCons (ePk 6) aNil)) aNil)))))) (sRet (eC (.bl false))) sNil) (sIf (tOrF (tNotF (tOf (eCall F_is_in_span (aCons (eVar 4) (aCons (eVar 6) aNil))))) (tNotF (tOf (eCall F_is_in_span (aCons (eVar 5) (aCons (eVar 6) aNil)))))) (sRet (eC (.bl false))) sNil)) sNil) (sIf (tOrF (tOf (eBin opIs (eCall F_common_row (aCons (eVar 4) (aCons (eVar 4) aNil))) (eC .non))) (tOf (eBin opIs (eCall F_common_row (aCons (eVar 4) (aCons (eSl (ePk 4) oNone (oSome (eC (.int 1)))) aNil))) (eC .non)))) (sRet (eC (.bl false))) sNil)))))))
def F_law_f1 : PSF := sFor (iRange1 (eC (.int 4))) (gNm 2) F_law_b1
/-- law: 0 script, 1 hand, 2 lap, 3 wide, 4 makers, 5 others, 6 told, 7 row -/
def F_law : FP := fnF 8 [false] (sSeq (sSet 1 (eCall F__law_hand (aCons (eVar 0) aNil))) (sSeq (sIf (tOrF (tOf (eBin opIsNot (eCall F_common_row (aCons (eTup (aCons (eTup (aCons (eC (.int 0)) (aCons (eC (.int 1)) aNil))) aNil)) (aCons (eTup (aCons (eTup (aCons (eC (.int 0)) (aCons (eC (.int 2)) aNil))) aNil)) aNil))) (eC .non))) (tOf (eBin opIs (eCall F_common_row (aCons (eTup (aCons (eTup (aCons (eC (.int 0)) (aCons (eC (.int 1)) aNil))) aNil)) (aCons (eTup (aCons (eTup (aCons (eC (.int 3)) (aCons (eC (.int 4)) aNil))) (aCons (eTup (aCons (eC (.int 0)) (aCons (eC (.int 9)) aNil))) aNil))) aNil))) (eC .non)))) (sRet (eC (.bl false))) sNil) (sSeq F_law_f1 (sRet (eC (.bl true))))))
end Wk24
set_option Elab.async false
set_option linter.all false
set_option maxRecDepth 100000
set_option maxHeartbeats 4000000
namespace Wk24
open PySem PySem.Spec PyProof.Rows L2 PL
/-! the text -/
def top (i : Nat) : Stmt := PySem.Challenge.pw_latersums_k24_whole_rows_common_to_two_s.main.body.getD i (.Pass ⟨0, 0, 0, 0⟩)
abbrev s__law_hand : Stmt := top 23
theorem sc__law_hand : FnScope ["script", "cells", "cell"] ["script"] (defScope s__law_hand) := ⟨rfl, rfl, rfl, by decide +kernel, rfl, by decide +kernel, by decide +kernel⟩
abbrev s_is_row : Stmt := top 2
theorem sc_is_row : FnScope ["thing"] ["thing"] (defScope s_is_row) := ⟨rfl, rfl, rfl, by decide +kernel, rfl, by decide +kernel, by decide +kernel⟩
abbrev s_is_integer : Stmt := top 1
theorem sc_is_integer : FnScope ["thing"] ["thing"] (defScope s_is_integer) := ⟨rfl, rfl, rfl, by decide +kernel, rfl, by decide +kernel, by decide +kernel⟩
abbrev s_check_makers : Stmt := top 14
theorem sc_check_makers : FnScope ["rows", "row", "one"] ["rows"] (defScope s_check_makers) := ⟨rfl, rfl, rfl, by decide +kernel, rfl, by decide +kernel, by decide +kernel⟩
abbrev s_spread : Stmt := top 21
theorem sc_spread : FnScope ["rows", "row"] ["rows"] (defScope s_spread) := ⟨rfl, rfl, rfl, by decide +kernel, rfl, by decide +kernel, by decide +kernel⟩
abbrev s_are_integers : Stmt := top 9
theorem sc_are_integers : FnScope ["thing", "many", "one"] ["thing", "many"] (defScope s_are_integers) := ⟨rfl, rfl, rfl, by decide +kernel, rfl, by decide +kernel, by decide +kernel⟩
abbrev s_made : Stmt := top 17
theorem sc_made : FnScope ["rows", "shifts", "pairs", "at", "maker", "number"] ["rows", "shifts"] (defScope s_made) := ⟨rfl, rfl, rfl, by decide +kernel, rfl, by decide +kernel, by decide +kernel⟩
abbrev s_check_like : Stmt := top 15
theorem sc_check_like : FnScope ["rows", "row"] ["rows", "row"] (defScope s_check_like) := ⟨rfl, rfl, rfl, by decide +kernel, rfl, by decide +kernel, by decide +kernel⟩
abbrev s_greatest_shifts : Stmt := top 16
theorem sc_greatest_shifts : FnScope ["rows", "row", "maker", "one", "goal"] ["rows", "row"] (defScope s_greatest_shifts) := ⟨rfl, rfl, rfl, by decide +kernel, rfl, by decide +kernel, by decide +kernel⟩
abbrev s_nearest : Stmt := top 19
theorem sc_nearest : FnScope ["rows", "row"] ["rows", "row"] (defScope s_nearest) := ⟨rfl, rfl, rfl, by decide +kernel, rfl, by decide +kernel, by decide +kernel⟩
abbrev s_common_row : Stmt := top 20
theorem sc_common_row : FnScope ["one", "other", "here", "bottom", "turn", "there", "later"] ["one", "other"] (defScope s_common_row) := ⟨rfl, rfl, rfl, by decide +kernel, rfl, by decide +kernel, by decide +kernel⟩
abbrev s__law_draw : Stmt := top 24
theorem sc__law_draw : FnScope ["hand", "bound", "cell", "digit", "number"] ["hand", "bound"] (defScope s__law_draw) := ⟨rfl, rfl, rfl, by decide +kernel, rfl, by decide +kernel, by decide +kernel⟩
abbrev s__law_makers : Stmt := top 26
theorem sc__law_makers : FnScope ["hand", "wide", "a", "b"] ["hand", "wide"] (defScope s__law_makers) := ⟨rfl, rfl, rfl, by decide +kernel, rfl, by decide +kernel, by decide +kernel⟩
abbrev s__law_spread : Stmt := top 31
theorem sc__law_spread : FnScope ["makers", "others", "row"] ["makers", "others"] (defScope s__law_spread) := ⟨rfl, rfl, rfl, by decide +kernel, rfl, by decide +kernel, by decide +kernel⟩
abbrev s__law_every : Stmt := top 25
theorem sc__law_every : FnScope ["low", "high", "many", "found", "lap", "longer", "some", "number"] ["low", "high", "many"] (defScope s__law_every) := ⟨rfl, rfl, rfl, by decide +kernel, rfl, by decide +kernel, by decide +kernel⟩
abbrev s__law_made : Stmt := top 28
theorem sc__law_made : FnScope ["makers", "shifts", "found", "at", "maker", "shift"] ["makers", "shifts"] (defScope s__law_made) := ⟨rfl, rfl, rfl, by decide +kernel, rfl, by decide +kernel, by decide +kernel⟩
abbrev s__law_shifts : Stmt := top 27
theorem sc__law_shifts : FnScope ["makers", "row", "maker", "a", "b"] ["makers", "row"] (defScope s__law_shifts) := ⟨rfl, rfl, rfl, by decide +kernel, rfl, by decide +kernel, by decide +kernel⟩
abbrev s__law_near : Stmt := top 29
theorem sc__law_near : FnScope ["makers", "row"] ["makers", "row"] (defScope s__law_near) := ⟨rfl, rfl, rfl, by decide +kernel, rfl, by decide +kernel, by decide +kernel⟩
abbrev s__law_is_made : Stmt := top 30
theorem sc__law_is_made : FnScope ["makers", "row"] ["makers", "row"] (defScope s__law_is_made) := ⟨rfl, rfl, rfl, by decide +kernel, rfl, by decide +kernel, by decide +kernel⟩
abbrev s__law_has_common : Stmt := top 32
theorem sc__law_has_common : FnScope ["makers", "others", "far", "row"] ["makers", "others"] (defScope s__law_has_common) := ⟨rfl, rfl, rfl, by decide +kernel, rfl, by decide +kernel, by decide +kernel⟩
abbrev s_is_in_span : Stmt := top 18
theorem sc_is_in_span : FnScope ["rows", "row"] ["rows", "row"] (defScope s_is_in_span) := ⟨rfl, rfl, rfl, by decide +kernel, rfl, by decide +kernel, by decide +kernel⟩
abbrev s_law : Stmt := top 33
theorem sc_law : FnScope ["script", "hand", "lap", "wide", "makers", "others", "told", "row"] ["script"] (defScope s_law) := ⟨rfl, rfl, rfl, by decide +kernel, rfl, by decide +kernel, by decide +kernel⟩
def flds : Nat → List Str := fun c => match c with | _ => []
/-- what the top has written -/
structure Tx (K : PySem.W.Frag) (mg : Str → Option Value) where
  f__law_hand : Addr
  d__law_hand : FuncData
  f_is_row : Addr
  d_is_row : FuncData
  f_is_integer : Addr
  d_is_integer : FuncData
  f_check_makers : Addr
  d_check_makers : FuncData
  f_spread : Addr
  d_spread : FuncData
  f_are_integers : Addr
  d_are_integers : FuncData
  f_made : Addr
  d_made : FuncData
  f_check_like : Addr
  d_check_like : FuncData
  f_greatest_shifts : Addr
  d_greatest_shifts : FuncData
  f_nearest : Addr
  d_nearest : FuncData
  f_common_row : Addr
  d_common_row : FuncData
  f__law_draw : Addr
  d__law_draw : FuncData
  f__law_makers : Addr
  d__law_makers : FuncData
  f__law_spread : Addr
  d__law_spread : FuncData
  f__law_every : Addr
  d__law_every : FuncData
  f__law_made : Addr
  d__law_made : FuncData
  f__law_shifts : Addr
  d__law_shifts : FuncData
  f__law_near : Addr
  d__law_near : FuncData
  f__law_is_made : Addr
  d__law_is_made : FuncData
  f__law_has_common : Addr
  d__law_has_common : FuncData
  f_is_in_span : Addr
  d_is_in_span : FuncData
  f_law : Addr
  d_law : FuncData
  F__law_hand : Fun K "_law_hand" "_law_hand" s__law_hand f__law_hand d__law_hand
  b__law_hand : Binds K d__law_hand ["script"] []
  g__law_hand : mg "_law_hand" = some (.ref f__law_hand)
  F_is_row : Fun K "is_row" "is_row" s_is_row f_is_row d_is_row
  b_is_row : Binds K d_is_row ["thing"] []
  g_is_row : mg "is_row" = some (.ref f_is_row)
  F_is_integer : Fun K "is_integer" "is_integer" s_is_integer f_is_integer d_is_integer
  b_is_integer : Binds K d_is_integer ["thing"] []
  g_is_integer : mg "is_integer" = some (.ref f_is_integer)
  F_check_makers : Fun K "check_makers" "check_makers" s_check_makers f_check_makers d_check_makers
  b_check_makers : Binds K d_check_makers ["rows"] []
  g_check_makers : mg "check_makers" = some (.ref f_check_makers)
  F_spread : Fun K "spread" "spread" s_spread f_spread d_spread
  b_spread : Binds K d_spread ["rows"] []
  g_spread : mg "spread" = some (.ref f_spread)
  F_are_integers : Fun K "are_integers" "are_integers" s_are_integers f_are_integers d_are_integers
  b_are_integers : Binds K d_are_integers ["thing", "many"] []
  g_are_integers : mg "are_integers" = some (.ref f_are_integers)
  F_made : Fun K "made" "made" s_made f_made d_made
  b_made : Binds K d_made ["rows", "shifts"] []
  g_made : mg "made" = some (.ref f_made)
  F_check_like : Fun K "check_like" "check_like" s_check_like f_check_like d_check_like
  b_check_like : Binds K d_check_like ["rows", "row"] []
  g_check_like : mg "check_like" = some (.ref f_check_like)
  F_greatest_shifts : Fun K "greatest_shifts" "greatest_shifts" s_greatest_shifts f_greatest_shifts d_greatest_shifts
  b_greatest_shifts : Binds K d_greatest_shifts ["rows", "row"] []
  g_greatest_shifts : mg "greatest_shifts" = some (.ref f_greatest_shifts)
  F_nearest : Fun K "nearest" "nearest" s_nearest f_nearest d_nearest
  b_nearest : Binds K d_nearest ["rows", "row"] []
  g_nearest : mg "nearest" = some (.ref f_nearest)
  F_common_row : Fun K "common_row" "common_row" s_common_row f_common_row d_common_row
  b_common_row : Binds K d_common_row ["one", "other"] []
  g_common_row : mg "common_row" = some (.ref f_common_row)
  F__law_draw : Fun K "_law_draw" "_law_draw" s__law_draw f__law_draw d__law_draw
  b__law_draw : Binds K d__law_draw ["hand", "bound"] []
  g__law_draw : mg "_law_draw" = some (.ref f__law_draw)
  F__law_makers : Fun K "_law_makers" "_law_makers" s__law_makers f__law_makers d__law_makers
  b__law_makers : Binds K d__law_makers ["hand", "wide"] []
  g__law_makers : mg "_law_makers" = some (.ref f__law_makers)
  F__law_spread : Fun K "_law_spread" "_law_spread" s__law_spread f__law_spread d__law_spread
  b__law_spread : Binds K d__law_spread ["makers", "others"] []
  g__law_spread : mg "_law_spread" = some (.ref f__law_spread)
  F__law_every : Fun K "_law_every" "_law_every" s__law_every f__law_every d__law_every
  b__law_every : Binds K d__law_every ["low", "high", "many"] []
  g__law_every : mg "_law_every" = some (.ref f__law_every)
  F__law_made : Fun K "_law_made" "_law_made" s__law_made f__law_made d__law_made
  b__law_made : Binds K d__law_made ["makers", "shifts"] []
  g__law_made : mg "_law_made" = some (.ref f__law_made)
  F__law_shifts : Fun K "_law_shifts" "_law_shifts" s__law_shifts f__law_shifts d__law_shifts
  b__law_shifts : Binds K d__law_shifts ["makers", "row"] []
  g__law_shifts : mg "_law_shifts" = some (.ref f__law_shifts)
  F__law_near : Fun K "_law_near" "_law_near" s__law_near f__law_near d__law_near
  b__law_near : Binds K d__law_near ["makers", "row"] []
  g__law_near : mg "_law_near" = some (.ref f__law_near)
  F__law_is_made : Fun K "_law_is_made" "_law_is_made" s__law_is_made f__law_is_made d__law_is_made
  b__law_is_made : Binds K d__law_is_made ["makers", "row"] []
  g__law_is_made : mg "_law_is_made" = some (.ref f__law_is_made)
  F__law_has_common : Fun K "_law_has_common" "_law_has_common" s__law_has_common f__law_has_common d__law_has_common
  b__law_has_common : Binds K d__law_has_common ["makers", "others"] []
  g__law_has_common : mg "_law_has_common" = some (.ref f__law_has_common)
  F_is_in_span : Fun K "is_in_span" "is_in_span" s_is_in_span f_is_in_span d_is_in_span
  b_is_in_span : Binds K d_is_in_span ["rows", "row"] []
  g_is_in_span : mg "is_in_span" = some (.ref f_is_in_span)
  F_law : Fun K "law" "law" s_law f_law d_law
  b_law : Binds K d_law ["script"] []
  g_law : mg "law" = some (.ref f_law)
  m_abs : mg "abs" = none
  m_all : mg "all" = none
  m_bool : mg "bool" = none
  m_int : mg "int" = none
  m_isinstance : mg "isinstance" = none
  m_len : mg "len" = none
  m_list : mg "list" = none
  m_max : mg "max" = none
  m_min : mg "min" = none
  m_range : mg "range" = none
  m_sum : mg "sum" = none
  m_tuple : mg "tuple" = none
  m_zip : mg "zip" = none
  k_MOST_MAKERS : ∃ u, mg "MOST_MAKERS" = some u ∧ L2.RelV (.int 8) u
  k_MOST_TURNS : ∃ u, mg "MOST_TURNS" = some u ∧ L2.RelV (.int 2000) u
  k_MOST_WIDE : ∃ u, mg "MOST_WIDE" = some u ∧ L2.RelV (.int 8) u
section
variable {P : Program} {w : World} {K : PySem.W.Frag} {mg : Str → Option Value} {base : Heap}
def RR (T : Tx K mg) : RE := { K := K, cl := fun c => match c with | _ => 0, fl := flds }
theorem ok__law_hand (T : Tx K mg) : FnP P w K mg base (RR T) 1 T.f__law_hand T.d__law_hand ["script"] F__law_hand :=
  fn_pl' (pr := [0]) T.F__law_hand sc__law_hand rfl (by decide) (by decide) (fun cdv A outer s H E hr => (ssv_cons (sv_setLc (own := [("cell", 2)]) rfl sc__law_hand.nd (i := 1) rfl rfl (by decide) (by rfl) (iv_seq rfl (ev_sl rfl (vPk 0) ov_none (ov_some ev_int))) (blkOk_by (by rfl)) (by decide) (by decide) (fun s H C cl fp => (gv_name (i := 2) sc__law_hand.nd rfl (by first | exact .inl rfl | exact .inr rfl))) (fun s H C cl fp => tsv_nil) (fun s H C cl fp => (ev_callB call_abs cok_abs (by rfl) T.m_abs boot_abs (av_cons (ev_callTy call_int1 cok_int (by rfl) T.m_int boot_int (av_cons (vPk 2) av_nil)) av_nil))) (s0 := s) (H0 := H)) (ssv_one (sv_ret (ev_lst (av_cons (vVar 1) (av_cons ev_int (av_cons ev_int (av_cons (ev_add rfl ev_int (ev_callB L2.call_len cok_len (by rfl) T.m_len boot_len (av_cons (vPk 1) av_nil))) (av_cons ev_int av_nil))))))))))
theorem ok_is_row (T : Tx K mg) : FnP P w K mg base (RR T) 1 T.f_is_row T.d_is_row ["thing"] F_is_row :=
  fn_pl' (pr := [0]) T.F_is_row sc_is_row rfl (by decide) (by decide) (fun cdv A outer s H E hr => (ssv_one (sv_ret (ev_callB (call_isi.or (call_isiT.or call_isiK)) cok_isi (by rfl) T.m_isinstance boot_isinstance (av_cons (vPk 0) (av_cons (ev_tup (av_cons (vTy .list T.m_list boot_list) (av_cons (vTy .tuple T.m_tuple boot_tuple) av_nil))) av_nil))))))
theorem ok_is_integer (T : Tx K mg) : FnP P w K mg base (RR T) 1 T.f_is_integer T.d_is_integer ["thing"] F_is_integer :=
  fn_pl' (pr := [0]) T.F_is_integer sc_is_integer rfl (by decide) (by decide) (fun cdv A outer s H E hr => (ssv_one (sv_ret (ev_and (ev_callB (call_isi.or (call_isiT.or call_isiK)) cok_isi (by rfl) T.m_isinstance boot_isinstance (av_cons (vPk 0) (av_cons (vTy .int T.m_int boot_int) av_nil))) (ev_one (ev_not (ev_callB (call_isi.or (call_isiT.or call_isiK)) cok_isi (by rfl) T.m_isinstance boot_isinstance (av_cons (vPk 0) (av_cons (vTy .bool T.m_bool boot_bool) av_nil)))))))))
theorem ok_check_makers (T : Tx K mg) : FnP P w K mg base (RR T) 2 T.f_check_makers T.d_check_makers ["rows"] F_check_makers :=
  fn_pl' (pr := [0]) T.F_check_makers sc_check_makers rfl (by decide) (by decide) (fun cdv A outer s H E hr => (ssv_cons (sv_if (Wv.tv (wv_or (tv_not (tv_val (ev_call (ok_is_row T) (hr.mono (by decide)) (by rfl) T.g_is_row T.F_is_row.kp T.b_is_row (av_cons (vVar 0) av_nil)))) (wv_or1 (tv_not (tv_chain op_le op_le bin_le bin_le ev_int (ev_callB L2.call_len cok_len (by rfl) T.m_len boot_len (av_cons (vPk 0) av_nil)) (ev_gc (v := .int 8) (by rfl) T.k_MOST_MAKERS (fun F => .int _))))))) (ssv_one sv_never) ssv_nil) (ssv_one (sv_for PassesOwn.never rfl (iv_seq rfl (vVar 0)) (gv_name (i := 1) sc_check_makers.nd rfl (by first | exact .inl rfl | exact .inr rfl)) (ssv_cons (sv_if (Wv.tv (wv_or (tv_not (tv_val (ev_call (ok_is_row T) (hr.mono (by decide)) (by rfl) T.g_is_row T.F_is_row.kp T.b_is_row (av_cons (vVar 1) av_nil)))) (wv_or (tv_not (tv_chain op_le op_le bin_le bin_le ev_int (ev_callB L2.call_len cok_len (by rfl) T.m_len boot_len (av_cons (vPk 1) av_nil)) (ev_gc (v := .int 8) (by rfl) T.k_MOST_WIDE (fun F => .int _)))) (wv_or1 (tv_cmp (op_neD (hu64 hr)) bin_ne (ev_callB L2.call_len cok_len (by rfl) T.m_len boot_len (av_cons (vPk 1) av_nil)) (ev_callB L2.call_len cok_len (by rfl) T.m_len boot_len (av_cons (ev_ix rfl (vPk 0) ev_int) av_nil)) (nomark _)))))) (ssv_one sv_never) ssv_nil) (ssv_one (sv_if (tv_not (tv_val (ev_callB (cr_all rfl) cok_all (by rfl) T.m_all boot_all (av_cons (ev_lc (own := [("one", 2)]) rfl sc_check_makers.nd (iv_seq rfl (vVar 1)) (blkOk_by (by rfl)) (by decide) (by decide) (fun s H C cl fp => (gv_name (i := 2) sc_check_makers.nd rfl (by first | exact .inl rfl | exact .inr rfl))) (fun s H C cl fp => tsv_nil) (fun s H C cl fp => (ev_call (ok_is_integer T) (hr.mono (by decide)) (by rfl) T.g_is_integer T.F_is_integer.kp T.b_is_integer (av_cons (vVar 2) av_nil))) (s0 := s) (H0 := H)) av_nil)))) (ssv_one sv_never) ssv_nil))) (by decide)))))
theorem ok_spread (T : Tx K mg) : FnP P w K mg base (RR T) 1 T.f_spread T.d_spread ["rows"] F_spread :=
  fn_pl' (pr := [0]) T.F_spread sc_spread rfl (by decide) (by decide) (fun cdv A outer s H E hr => (ssv_one (sv_ret (ev_mul rfl (ev_callB ((cr_sum rfl).or (cr_sumT rfl)) cok_sum2 (by rfl) T.m_sum boot_sum (av_cons (ev_lc (own := [("row", 1)]) rfl sc_spread.nd (iv_seq rfl (vVar 0)) (blkOk_by (by rfl)) (by decide) (by decide) (fun s H C cl fp => (gv_name (i := 1) sc_spread.nd rfl (by first | exact .inl rfl | exact .inr rfl))) (fun s H C cl fp => tsv_nil) (fun s H C cl fp => (ev_sub (ev_callB ((callr_max rfl).or (cr_maxT rfl)) cok_max2 (by rfl) T.m_max boot_max (av_cons (vPk 1) av_nil)) (ev_callB ((callr_min rfl).or (cr_minT rfl)) cok_min2 (by rfl) T.m_min boot_min (av_cons (vPk 1) av_nil)))) (s0 := s) (H0 := H)) av_nil)) (ev_callB L2.call_len cok_len (by rfl) T.m_len boot_len (av_cons (ev_ix rfl (vPk 0) ev_int) av_nil))))))
theorem ok_are_integers (T : Tx K mg) : FnP P w K mg base (RR T) 2 T.f_are_integers T.d_are_integers ["thing", "many"] F_are_integers :=
  fn_pl' (pr := [0, 1]) T.F_are_integers sc_are_integers rfl (by decide) (by decide) (fun cdv A outer s H E hr => (ssv_one (sv_ret (ev_and (ev_call (ok_is_row T) (hr.mono (by decide)) (by rfl) T.g_is_row T.F_is_row.kp T.b_is_row (av_cons (vVar 0) av_nil)) (ev_and (ev_cmp (op_eqD (hu64 hr)) bin_eq (ev_callB L2.call_len cok_len (by rfl) T.m_len boot_len (av_cons (vPk 0) av_nil)) (vPk 1) (nomark _)) (ev_one (ev_callB (cr_all rfl) cok_all (by rfl) T.m_all boot_all (av_cons (ev_lc (own := [("one", 2)]) rfl sc_are_integers.nd (iv_seq rfl (vVar 0)) (blkOk_by (by rfl)) (by decide) (by decide) (fun s H C cl fp => (gv_name (i := 2) sc_are_integers.nd rfl (by first | exact .inl rfl | exact .inr rfl))) (fun s H C cl fp => tsv_nil) (fun s H C cl fp => (ev_call (ok_is_integer T) (hr.mono (by decide)) (by rfl) T.g_is_integer T.F_is_integer.kp T.b_is_integer (av_cons (vVar 2) av_nil))) (s0 := s) (H0 := H)) av_nil))))))))
theorem ok_made (T : Tx K mg) : FnP P w K mg base (RR T) 3 T.f_made T.d_made ["rows", "shifts"] F_made :=
  fn_pl' (pr := [0, 1]) T.F_made sc_made rfl (by decide) (by decide) (fun cdv A outer s H E hr => (ssv_cons (sv_expr (ev_call (ok_check_makers T) (hr.mono (by decide)) (by rfl) T.g_check_makers T.F_check_makers.kp T.b_check_makers (av_cons (vVar 0) av_nil))) (ssv_cons (sv_if (tv_not (tv_val (ev_call (ok_are_integers T) (hr.mono (by decide)) (by rfl) T.g_are_integers T.F_are_integers.kp T.b_are_integers (av_cons (vVar 1) (av_cons (ev_callB L2.call_len cok_len (by rfl) T.m_len boot_len (av_cons (vPk 0) av_nil)) av_nil))))) (ssv_one sv_never) ssv_nil) (ssv_cons (sv_set (i := 2) sc_made.nd rfl (by first | exact .inl rfl | exact .inr rfl) (by decide) (ev_listZ rfl rfl (by rfl) T.m_list (by rfl) T.m_zip (av_cons (vVar 0) (av_cons (vVar 1) av_nil)))) (ssv_one (sv_ret (ev_callTy call_tuple_of cok_tuple (by rfl) T.m_tuple boot_tuple (av_cons (ev_lc (own := [("at", 3)]) rfl sc_made.nd (iv_range1 (by rfl) T.m_range (ev_callB L2.call_len cok_len (by rfl) T.m_len boot_len (av_cons (ev_ix rfl (vPk 0) ev_int) av_nil))) (blkOk_by (by rfl)) (by decide) (by decide) (fun s H C cl fp => (gv_name (i := 3) sc_made.nd rfl (by first | exact .inl rfl | exact .inr rfl))) (fun s H C cl fp => tsv_nil) (fun s H C cl fp => (ev_callB ((callr_max rfl).or (cr_maxT rfl)) cok_max2 (by rfl) T.m_max boot_max (av_cons (ev_lc (own := [("maker", 4), ("number", 5)]) rfl sc_made.nd (iv_seq rfl (vVar 2)) (blkOk_by (by rfl)) (by decide) (by decide) (fun s H C cl fp => (gv_tup (n := 2) rfl rfl (gsv_cons (gv_name (i := 4) sc_made.nd rfl (by first | exact .inl rfl | exact .inr rfl)) (gsv_cons (gv_name (i := 5) sc_made.nd rfl (by first | exact .inl rfl | exact .inr rfl)) gsv_nil)) (gs_lenS (gs_lenS gs_len0)))) (fun s H C cl fp => tsv_nil) (fun s H C cl fp => (ev_add rfl (ev_ix rfl (vPk 4) (vPk 3)) (vPk 5))) (s0 := s) (H0 := H)) av_nil))) (s0 := s) (H0 := H)) av_nil))))))))
theorem ok_check_like (T : Tx K mg) : FnP P w K mg base (RR T) 3 T.f_check_like T.d_check_like ["rows", "row"] F_check_like :=
  fn_pl' (pr := [0, 1]) T.F_check_like sc_check_like rfl (by decide) (by decide) (fun cdv A outer s H E hr => (ssv_cons (sv_expr (ev_call (ok_check_makers T) (hr.mono (by decide)) (by rfl) T.g_check_makers T.F_check_makers.kp T.b_check_makers (av_cons (vVar 0) av_nil))) (ssv_one (sv_if (tv_not (tv_val (ev_call (ok_are_integers T) (hr.mono (by decide)) (by rfl) T.g_are_integers T.F_are_integers.kp T.b_are_integers (av_cons (vVar 1) (av_cons (ev_callB L2.call_len cok_len (by rfl) T.m_len boot_len (av_cons (ev_ix rfl (vPk 0) ev_int) av_nil)) av_nil))))) (ssv_one sv_never) ssv_nil))))
theorem ok_greatest_shifts (T : Tx K mg) : FnP P w K mg base (RR T) 4 T.f_greatest_shifts T.d_greatest_shifts ["rows", "row"] F_greatest_shifts :=
  fn_pl' (pr := [0, 1]) T.F_greatest_shifts sc_greatest_shifts rfl (by decide) (by decide) (fun cdv A outer s H E hr => (ssv_cons (sv_expr (ev_call (ok_check_like T) (hr.mono (by decide)) (by rfl) T.g_check_like T.F_check_like.kp T.b_check_like (av_cons (vVar 0) (av_cons (vVar 1) av_nil)))) (ssv_one (sv_ret (ev_callTy call_tuple_of cok_tuple (by rfl) T.m_tuple boot_tuple (av_cons (ev_lc (own := [("maker", 2)]) rfl sc_greatest_shifts.nd (iv_seq rfl (vVar 0)) (blkOk_by (by rfl)) (by decide) (by decide) (fun s H C cl fp => (gv_name (i := 2) sc_greatest_shifts.nd rfl (by first | exact .inl rfl | exact .inr rfl))) (fun s H C cl fp => tsv_nil) (fun s H C cl fp => (ev_callB ((callr_min rfl).or (cr_minT rfl)) cok_min2 (by rfl) T.m_min boot_min (av_cons (ev_lc (own := [("one", 3), ("goal", 4)]) rfl sc_greatest_shifts.nd (iv_zip2 rfl (by rfl) T.m_zip (av_cons (vVar 2) (av_cons (vVar 1) av_nil))) (blkOk_by (by rfl)) (by decide) (by decide) (fun s H C cl fp => (gv_tup (n := 2) rfl rfl (gsv_cons (gv_name (i := 3) sc_greatest_shifts.nd rfl (by first | exact .inl rfl | exact .inr rfl)) (gsv_cons (gv_name (i := 4) sc_greatest_shifts.nd rfl (by first | exact .inl rfl | exact .inr rfl)) gsv_nil)) (gs_lenS (gs_lenS gs_len0)))) (fun s H C cl fp => tsv_nil) (fun s H C cl fp => (ev_sub (vPk 4) (vPk 3))) (s0 := s) (H0 := H)) av_nil))) (s0 := s) (H0 := H)) av_nil))))))
theorem ok_nearest (T : Tx K mg) : FnP P w K mg base (RR T) 5 T.f_nearest T.d_nearest ["rows", "row"] F_nearest :=
  fn_pl' (pr := [0, 1]) T.F_nearest sc_nearest rfl (by decide) (by decide) (fun cdv A outer s H E hr => (ssv_one (sv_ret (ev_call (ok_made T) (hr.mono (by decide)) (by rfl) T.g_made T.F_made.kp T.b_made (av_cons (vVar 0) (av_cons (ev_call (ok_greatest_shifts T) (hr.mono (by decide)) (by rfl) T.g_greatest_shifts T.F_greatest_shifts.kp T.b_greatest_shifts (av_cons (vVar 0) (av_cons (vVar 1) av_nil))) av_nil))))))
theorem ok_common_row (T : Tx K mg) : FnP P w K mg base (RR T) 6 T.f_common_row T.d_common_row ["one", "other"] F_common_row :=
  fn_pl' (pr := [0, 1]) T.F_common_row sc_common_row rfl (by decide) (by decide) (fun cdv A outer s H E hr => (ssv_cons (sv_expr (ev_call (ok_check_makers T) (hr.mono (by decide)) (by rfl) T.g_check_makers T.F_check_makers.kp T.b_check_makers (av_cons (vVar 0) av_nil))) (ssv_cons (sv_expr (ev_call (ok_check_makers T) (hr.mono (by decide)) (by rfl) T.g_check_makers T.F_check_makers.kp T.b_check_makers (av_cons (vVar 1) av_nil))) (ssv_cons (sv_if (tv_cmp (op_neD (hu64 hr)) bin_ne (ev_callB L2.call_len cok_len (by rfl) T.m_len boot_len (av_cons (ev_ix rfl (vPk 0) ev_int) av_nil)) (ev_callB L2.call_len cok_len (by rfl) T.m_len boot_len (av_cons (ev_ix rfl (vPk 1) ev_int) av_nil)) (nomark _)) (ssv_one sv_never) ssv_nil) (ssv_cons (sv_set (i := 2) sc_common_row.nd rfl (by first | exact .inl rfl | exact .inr rfl) (by decide) (ev_callTy call_tuple_of cok_tuple (by rfl) T.m_tuple boot_tuple (av_cons (ev_ix rfl (vPk 0) ev_int) av_nil))) (ssv_cons (sv_set (i := 3) sc_common_row.nd rfl (by first | exact .inl rfl | exact .inr rfl) (by decide) (ev_sub (ev_sub (ev_sub (ev_callB ((callr_min rfl).or (cr_minT rfl)) cok_min2 (by rfl) T.m_min boot_min (av_cons (vPk 2) av_nil)) (ev_call (ok_spread T) (hr.mono (by decide)) (by rfl) T.g_spread T.F_spread.kp T.b_spread (av_cons (vVar 0) av_nil))) (ev_call (ok_spread T) (hr.mono (by decide)) (by rfl) T.g_spread T.F_spread.kp T.b_spread (av_cons (vVar 1) av_nil))) ev_int)) (ssv_cons (sv_for PassesOwn.never rfl (iv_range1 (by rfl) T.m_range (ev_gc (v := .int 2000) (by rfl) T.k_MOST_TURNS (fun F => .int _))) (gv_name (i := 4) sc_common_row.nd rfl (by first | exact .inl rfl | exact .inr rfl)) (ssv_cons (sv_if (tv_cmp op_lt bin_lt (ev_callB ((callr_min rfl).or (cr_minT rfl)) cok_min2 (by rfl) T.m_min boot_min (av_cons (vPk 2) av_nil)) (vPk 3) (nomark _)) (ssv_one (sv_ret ev_non)) ssv_nil) (ssv_cons (sv_set (i := 5) sc_common_row.nd rfl (by first | exact .inl rfl | exact .inr rfl) (by decide) (ev_call (ok_nearest T) (hr.mono (by decide)) (by rfl) T.g_nearest T.F_nearest.kp T.b_nearest (av_cons (vVar 1) (av_cons (vVar 2) av_nil)))) (ssv_cons (sv_set (i := 6) sc_common_row.nd rfl (by first | exact .inl rfl | exact .inr rfl) (by decide) (ev_call (ok_nearest T) (hr.mono (by decide)) (by rfl) T.g_nearest T.F_nearest.kp T.b_nearest (av_cons (vVar 0) (av_cons (vVar 5) av_nil)))) (ssv_cons (sv_if (tv_cmp (op_eqD (hu64 hr)) bin_eq (vPk 6) (vPk 2) (nomark _)) (ssv_one (sv_ret (vVar 2))) ssv_nil) (ssv_one (sv_set (i := 2) sc_common_row.nd rfl (by first | exact .inl rfl | exact .inr rfl) (by decide) (vVar 6))))))) (by decide)) (ssv_one sv_never))))))))
theorem ok__law_draw (T : Tx K mg) : FnP P w K mg base (RR T) 1 T.f__law_draw T.d__law_draw ["hand", "bound"] F__law_draw :=
  fn_pl' (pr := [0, 1]) T.F__law_draw sc__law_draw rfl (by decide) (by decide) (fun cdv A outer s H E hr => (ssv_cons (sv_if (Wv.tv (wv_and (tv_cmp (op_eqD (hu64 hr)) bin_eq (ev_ix rfl (vPk 0) ev_int) ev_int (nomark _)) (wv_and1 (tv_cmp op_lt bin_lt (ev_ix rfl (vPk 0) ev_int) (ev_callB L2.call_len cok_len (by rfl) T.m_len boot_len (av_cons (ev_ix rfl (vPk 0) ev_int) av_nil)) (nomark _))))) (ssv_cons (sv_set (i := 2) sc__law_draw.nd rfl (by first | exact .inl rfl | exact .inr rfl) (by decide) (ev_ix rfl (ev_ix rfl (vPk 0) ev_int) (ev_ix rfl (vPk 0) ev_int))) (ssv_cons (sv_setIx (i := 0) rfl (by first | exact .inl rfl | exact .inr (.inl rfl) | exact .inr (.inr rfl)) (ev_add rfl (ev_ix rfl (vPk 0) ev_int) ev_int) ev_int) (ssv_cons (sv_setIx (i := 0) rfl (by first | exact .inl rfl | exact .inr (.inl rfl) | exact .inr (.inr rfl)) (ev_mod (ev_callTy call_int1 cok_int (by rfl) T.m_int boot_int (av_cons (ev_add rfl (ev_add rfl (ev_mul rfl (ev_ix rfl (vPk 0) ev_int) ev_int) (vPk 2)) ev_int) av_nil)) ev_int) ev_int) (ssv_one (sv_if (tv_cmp op_ge bin_ge (vPk 2) (ev_pow ev_int ev_int) (nomark _)) (ssv_one (sv_setIx (i := 0) rfl (by first | exact .inl rfl | exact .inr (.inl rfl) | exact .inr (.inr rfl)) (vVar 2) ev_int)) ssv_nil))))) ssv_nil) (ssv_cons (sv_if (tv_cmp op_gt bin_gt (ev_ix rfl (vPk 0) ev_int) ev_int (nomark _)) (ssv_cons (sv_set (i := 3) sc__law_draw.nd rfl (by first | exact .inl rfl | exact .inr rfl) (by decide) (ev_mod (ev_callTy call_int1 cok_int (by rfl) T.m_int boot_int (av_cons (ev_ix rfl (vPk 0) ev_int) av_nil)) (vPk 1))) (ssv_cons (sv_setIx (i := 0) rfl (by first | exact .inl rfl | exact .inr (.inl rfl) | exact .inr (.inr rfl)) (ev_fdiv (ev_ix rfl (vPk 0) ev_int) (vPk 1)) ev_int) (ssv_one (sv_ret (vVar 3))))) ssv_nil) (ssv_cons (sv_setIx (i := 0) rfl (by first | exact .inl rfl | exact .inr (.inl rfl) | exact .inr (.inr rfl)) (ev_add rfl (ev_ix rfl (vPk 0) ev_int) ev_int) ev_int) (ssv_cons (sv_set (i := 4) sc__law_draw.nd rfl (by first | exact .inl rfl | exact .inr rfl) (by decide) (ev_mod (ev_callTy call_int1 cok_int (by rfl) T.m_int boot_int (av_cons (ev_mul rfl (ev_callTy call_int1 cok_int (by rfl) T.m_int boot_int (av_cons (ev_add rfl (ev_ix rfl (vPk 0) ev_int) (ev_mul rfl ev_int (ev_ix rfl (vPk 0) ev_int))) av_nil)) ev_int) av_nil)) ev_int)) (ssv_cons (sv_set (i := 4) sc__law_draw.nd rfl (by first | exact .inl rfl | exact .inr rfl) (by decide) (ev_mod (ev_callTy call_int1 cok_int (by rfl) T.m_int boot_int (av_cons (ev_mul rfl (vPk 4) (ev_add rfl (ev_fdiv (vPk 4) ev_int) ev_int)) av_nil)) ev_int)) (ssv_cons (sv_set (i := 4) sc__law_draw.nd rfl (by first | exact .inl rfl | exact .inr rfl) (by decide) (ev_mod (ev_callTy call_int1 cok_int (by rfl) T.m_int boot_int (av_cons (ev_mul rfl (vPk 4) (ev_add rfl (ev_fdiv (vPk 4) ev_int) ev_int)) av_nil)) ev_int)) (ssv_one (sv_ret (ev_mod (ev_callTy call_int1 cok_int (by rfl) T.m_int boot_int (av_cons (ev_fdiv (vPk 4) ev_int) av_nil)) (vPk 1)))))))))))
theorem ok__law_makers (T : Tx K mg) : FnP P w K mg base (RR T) 2 T.f__law_makers T.d__law_makers ["hand", "wide"] F__law_makers :=
  fn_pl' (pr := [0, 1]) T.F__law_makers sc__law_makers rfl (by decide) (by decide) (fun cdv A outer s H E hr => (ssv_one (sv_ret (ev_callTy call_tuple_of cok_tuple (by rfl) T.m_tuple boot_tuple (av_cons (ev_lc (own := [("a", 2)]) rfl sc__law_makers.nd (iv_range1 (by rfl) T.m_range (ev_add rfl ev_int (ev_call (ok__law_draw T) (hr.mono (by decide)) (by rfl) T.g__law_draw T.F__law_draw.kp T.b__law_draw (av_cons (vBor 0) (av_cons ev_int av_nil))))) (blkOk_by (by rfl)) (by decide) (by decide) (fun s H C cl fp => (gv_name (i := 2) sc__law_makers.nd rfl (by first | exact .inl rfl | exact .inr rfl))) (fun s H C cl fp => tsv_nil) (fun s H C cl fp => (ev_callTy call_tuple_of cok_tuple (by rfl) T.m_tuple boot_tuple (av_cons (ev_lc (own := [("b", 3)]) rfl sc__law_makers.nd (iv_range1 (by rfl) T.m_range (vPk 1)) (blkOk_by (by rfl)) (by decide) (by decide) (fun s H C cl fp => (gv_name (i := 3) sc__law_makers.nd rfl (by first | exact .inl rfl | exact .inr rfl))) (fun s H C cl fp => tsv_nil) (fun s H C cl fp => (ev_sub (ev_call (ok__law_draw T) (hr.mono (by decide)) (by rfl) T.g__law_draw T.F__law_draw.kp T.b__law_draw (av_cons (vBor 0) (av_cons ev_int av_nil))) ev_int)) (s0 := s) (H0 := H)) av_nil))) (s0 := s) (H0 := H)) av_nil)))))
theorem ok__law_spread (T : Tx K mg) : FnP P w K mg base (RR T) 1 T.f__law_spread T.d__law_spread ["makers", "others"] F__law_spread :=
  fn_pl' (pr := [0, 1]) T.F__law_spread sc__law_spread rfl (by decide) (by decide) (fun cdv A outer s H E hr => (ssv_one (sv_ret (ev_callB ((callr_max rfl).or (cr_maxT rfl)) cok_max2 (by rfl) T.m_max boot_max (av_cons (ev_add rfl (ev_lst (av_cons ev_int av_nil)) (ev_lc (own := [("row", 2)]) rfl sc__law_spread.nd (iv_seq rfl (ev_add rfl (vPk 0) (vPk 1))) (blkOk_by (by rfl)) (by decide) (by decide) (fun s H C cl fp => (gv_name (i := 2) sc__law_spread.nd rfl (by first | exact .inl rfl | exact .inr rfl))) (fun s H C cl fp => tsv_nil) (fun s H C cl fp => (ev_sub (ev_callB ((callr_max rfl).or (cr_maxT rfl)) cok_max2 (by rfl) T.m_max boot_max (av_cons (vPk 2) av_nil)) (ev_callB ((callr_min rfl).or (cr_minT rfl)) cok_min2 (by rfl) T.m_min boot_min (av_cons (vPk 2) av_nil)))) (s0 := s) (H0 := H))) av_nil)))))
theorem ok__law_every (T : Tx K mg) : FnP P w K mg base (RR T) 1 T.f__law_every T.d__law_every ["low", "high", "many"] F__law_every :=
  fn_pl' (pr := [0, 1, 2]) T.F__law_every sc__law_every rfl (by decide) (by decide) (fun cdv A outer s H E hr => (ssv_cons (sv_set (i := 3) sc__law_every.nd rfl (by first | exact .inl rfl | exact .inr rfl) (by decide) (ev_lst (av_cons (ev_tup av_nil) av_nil))) (ssv_cons (sv_for PassesOwn.never rfl (iv_range1 (by rfl) T.m_range (vPk 2)) (gv_name (i := 4) sc__law_every.nd rfl (by first | exact .inl rfl | exact .inr rfl)) (ssv_cons (sv_set (i := 5) sc__law_every.nd rfl (by first | exact .inl rfl | exact .inr rfl) (by decide) (ev_lst av_nil)) (ssv_cons (sv_for PassesOwn.never rfl (iv_seq rfl (vVar 3)) (gv_name (i := 6) sc__law_every.nd rfl (by first | exact .inl rfl | exact .inr rfl)) (ssv_one (sv_expr (ev_extend (i := 5) rfl (by first | exact .inl rfl | exact .inr (.inl rfl) | exact .inr (.inr rfl)) (ev_lc (own := [("number", 7)]) rfl sc__law_every.nd (iv_range2 (by rfl) T.m_range (vPk 0) (ev_add rfl (vPk 1) ev_int)) (blkOk_by (by rfl)) (by decide) (by decide) (fun s H C cl fp => (gv_name (i := 7) sc__law_every.nd rfl (by first | exact .inl rfl | exact .inr rfl))) (fun s H C cl fp => tsv_nil) (fun s H C cl fp => (ev_add rfl (vPk 6) (ev_tup (av_cons (vVar 7) av_nil)))) (s0 := s) (H0 := H))))) (by decide)) (ssv_one (sv_set (i := 3) sc__law_every.nd rfl (by first | exact .inl rfl | exact .inr rfl) (by decide) (vVar 5))))) (by decide)) (ssv_one (sv_ret (vVar 3))))))
theorem ok__law_made (T : Tx K mg) : FnP P w K mg base (RR T) 1 T.f__law_made T.d__law_made ["makers", "shifts"] F__law_made :=
  fn_pl' (pr := [0, 1]) T.F__law_made sc__law_made rfl (by decide) (by decide) (fun cdv A outer s H E hr => (ssv_cons (sv_set (i := 2) sc__law_made.nd rfl (by first | exact .inl rfl | exact .inr rfl) (by decide) (ev_lst av_nil)) (ssv_cons (sv_for PassesOwn.never rfl (iv_range1 (by rfl) T.m_range (ev_callB L2.call_len cok_len (by rfl) T.m_len boot_len (av_cons (ev_ix rfl (vPk 0) ev_int) av_nil))) (gv_name (i := 3) sc__law_made.nd rfl (by first | exact .inl rfl | exact .inr rfl)) (ssv_one (sv_expr (ev_append (i := 2) rfl (by first | exact .inl rfl | exact .inr (.inl rfl) | exact .inr (.inr rfl)) (ev_callB ((callr_max rfl).or (cr_maxT rfl)) cok_max2 (by rfl) T.m_max boot_max (av_cons (ev_lc (own := [("maker", 4), ("shift", 5)]) rfl sc__law_made.nd (iv_zip2 rfl (by rfl) T.m_zip (av_cons (vVar 0) (av_cons (vVar 1) av_nil))) (blkOk_by (by rfl)) (by decide) (by decide) (fun s H C cl fp => (gv_tup (n := 2) rfl rfl (gsv_cons (gv_name (i := 4) sc__law_made.nd rfl (by first | exact .inl rfl | exact .inr rfl)) (gsv_cons (gv_name (i := 5) sc__law_made.nd rfl (by first | exact .inl rfl | exact .inr rfl)) gsv_nil)) (gs_lenS (gs_lenS gs_len0)))) (fun s H C cl fp => tsv_nil) (fun s H C cl fp => (ev_add rfl (ev_ix rfl (vPk 4) (vPk 3)) (vPk 5))) (s0 := s) (H0 := H)) av_nil))))) (by decide)) (ssv_one (sv_ret (ev_callTy call_tuple_of cok_tuple (by rfl) T.m_tuple boot_tuple (av_cons (vPk 2) av_nil)))))))
theorem ok__law_shifts (T : Tx K mg) : FnP P w K mg base (RR T) 1 T.f__law_shifts T.d__law_shifts ["makers", "row"] F__law_shifts :=
  fn_pl' (pr := [0, 1]) T.F__law_shifts sc__law_shifts rfl (by decide) (by decide) (fun cdv A outer s H E hr => (ssv_one (sv_ret (ev_callTy call_tuple_of cok_tuple (by rfl) T.m_tuple boot_tuple (av_cons (ev_lc (own := [("maker", 2)]) rfl sc__law_shifts.nd (iv_seq rfl (vVar 0)) (blkOk_by (by rfl)) (by decide) (by decide) (fun s H C cl fp => (gv_name (i := 2) sc__law_shifts.nd rfl (by first | exact .inl rfl | exact .inr rfl))) (fun s H C cl fp => tsv_nil) (fun s H C cl fp => (ev_callB ((callr_min rfl).or (cr_minT rfl)) cok_min2 (by rfl) T.m_min boot_min (av_cons (ev_lc (own := [("a", 3), ("b", 4)]) rfl sc__law_shifts.nd (iv_zip2 rfl (by rfl) T.m_zip (av_cons (vVar 2) (av_cons (vVar 1) av_nil))) (blkOk_by (by rfl)) (by decide) (by decide) (fun s H C cl fp => (gv_tup (n := 2) rfl rfl (gsv_cons (gv_name (i := 3) sc__law_shifts.nd rfl (by first | exact .inl rfl | exact .inr rfl)) (gsv_cons (gv_name (i := 4) sc__law_shifts.nd rfl (by first | exact .inl rfl | exact .inr rfl)) gsv_nil)) (gs_lenS (gs_lenS gs_len0)))) (fun s H C cl fp => tsv_nil) (fun s H C cl fp => (ev_sub (vPk 4) (vPk 3))) (s0 := s) (H0 := H)) av_nil))) (s0 := s) (H0 := H)) av_nil)))))
theorem ok__law_near (T : Tx K mg) : FnP P w K mg base (RR T) 2 T.f__law_near T.d__law_near ["makers", "row"] F__law_near :=
  fn_pl' (pr := [0, 1]) T.F__law_near sc__law_near rfl (by decide) (by decide) (fun cdv A outer s H E hr => (ssv_one (sv_ret (ev_call (ok__law_made T) (hr.mono (by decide)) (by rfl) T.g__law_made T.F__law_made.kp T.b__law_made (av_cons (vVar 0) (av_cons (ev_call (ok__law_shifts T) (hr.mono (by decide)) (by rfl) T.g__law_shifts T.F__law_shifts.kp T.b__law_shifts (av_cons (vVar 0) (av_cons (vVar 1) av_nil))) av_nil))))))
theorem ok__law_is_made (T : Tx K mg) : FnP P w K mg base (RR T) 3 T.f__law_is_made T.d__law_is_made ["makers", "row"] F__law_is_made :=
  fn_pl' (pr := [0, 1]) T.F__law_is_made sc__law_is_made rfl (by decide) (by decide) (fun cdv A outer s H E hr => (ssv_one (sv_ret (ev_cmp (op_eqD (hu64 hr)) bin_eq (ev_call (ok__law_near T) (hr.mono (by decide)) (by rfl) T.g__law_near T.F__law_near.kp T.b__law_near (av_cons (vVar 0) (av_cons (vVar 1) av_nil))) (vPk 1) (nomark _)))))
theorem ok__law_has_common (T : Tx K mg) : FnP P w K mg base (RR T) 4 T.f__law_has_common T.d__law_has_common ["makers", "others"] F__law_has_common :=
  fn_pl' (pr := [0, 1]) T.F__law_has_common sc__law_has_common rfl (by decide) (by decide) (fun cdv A outer s H E hr => (ssv_cons (sv_set (i := 2) sc__law_has_common.nd rfl (by first | exact .inl rfl | exact .inr rfl) (by decide) (ev_call (ok__law_spread T) (hr.mono (by decide)) (by rfl) T.g__law_spread T.F__law_spread.kp T.b__law_spread (av_cons (vVar 0) (av_cons (vVar 1) av_nil)))) (ssv_cons (sv_for PassesOwn.never rfl (iv_seq rfl (ev_call (ok__law_every T) (hr.mono (by decide)) (by rfl) T.g__law_every T.F__law_every.kp T.b__law_every (av_cons (ev_sub ev_int (vPk 2)) (av_cons (vVar 2) (av_cons (ev_sub (ev_callB L2.call_len cok_len (by rfl) T.m_len boot_len (av_cons (ev_ix rfl (vPk 0) ev_int) av_nil)) ev_int) av_nil))))) (gv_name (i := 3) sc__law_has_common.nd rfl (by first | exact .inl rfl | exact .inr rfl)) (ssv_one (sv_if (Wv.tv (wv_and (tv_val (ev_call (ok__law_is_made T) (hr.mono (by decide)) (by rfl) T.g__law_is_made T.F__law_is_made.kp T.b__law_is_made (av_cons (vVar 0) (av_cons (ev_add rfl (ev_tup (av_cons ev_int av_nil)) (vPk 3)) av_nil)))) (wv_and1 (tv_val (ev_call (ok__law_is_made T) (hr.mono (by decide)) (by rfl) T.g__law_is_made T.F__law_is_made.kp T.b__law_is_made (av_cons (vVar 1) (av_cons (ev_add rfl (ev_tup (av_cons ev_int av_nil)) (vPk 3)) av_nil))))))) (ssv_one (sv_ret ev_bl)) ssv_nil)) (by decide)) (ssv_one (sv_ret ev_bl)))))
theorem ok_is_in_span (T : Tx K mg) : FnP P w K mg base (RR T) 5 T.f_is_in_span T.d_is_in_span ["rows", "row"] F_is_in_span :=
  fn_pl' (pr := [0, 1]) T.F_is_in_span sc_is_in_span rfl (by decide) (by decide) (fun cdv A outer s H E hr => (ssv_one (sv_ret (ev_cmp (op_eqD (hu64 hr)) bin_eq (ev_call (ok_made T) (hr.mono (by decide)) (by rfl) T.g_made T.F_made.kp T.b_made (av_cons (vVar 0) (av_cons (ev_call (ok_greatest_shifts T) (hr.mono (by decide)) (by rfl) T.g_greatest_shifts T.F_greatest_shifts.kp T.b_greatest_shifts (av_cons (vVar 0) (av_cons (vVar 1) av_nil))) av_nil))) (ev_callTy call_tuple_of cok_tuple (by rfl) T.m_tuple boot_tuple (av_cons (vPk 1) av_nil)) (nomark _)))))
theorem ok_law (T : Tx K mg) : FnP P w K mg base (RR T) 7 T.f_law T.d_law ["script"] F_law :=
  fn_pl' (pr := [0]) T.F_law sc_law rfl (by decide) (by decide) (fun cdv A outer s H E hr => (ssv_cons (sv_set (i := 1) sc_law.nd rfl (by first | exact .inl rfl | exact .inr rfl) (by decide) (ev_call (ok__law_hand T) (hr.mono (by decide)) (by rfl) T.g__law_hand T.F__law_hand.kp T.b__law_hand (av_cons (vVar 0) av_nil))) (ssv_cons (sv_if (Wv.tv (wv_or (tv_cmp op_notN bin_isNot (ev_call (ok_common_row T) (hr.mono (by decide)) (by rfl) T.g_common_row T.F_common_row.kp T.b_common_row (av_cons (ev_tup (av_cons (ev_tup (av_cons ev_int (av_cons ev_int av_nil))) av_nil)) (av_cons (ev_tup (av_cons (ev_tup (av_cons ev_int (av_cons ev_int av_nil))) av_nil)) av_nil))) ev_non (nomark _)) (wv_or1 (tv_cmp op_isN bin_is (ev_call (ok_common_row T) (hr.mono (by decide)) (by rfl) T.g_common_row T.F_common_row.kp T.b_common_row (av_cons (ev_tup (av_cons (ev_tup (av_cons ev_int (av_cons ev_int av_nil))) av_nil)) (av_cons (ev_tup (av_cons (ev_tup (av_cons ev_int (av_cons ev_int av_nil))) (av_cons (ev_tup (av_cons ev_int (av_cons ev_int av_nil))) av_nil))) av_nil))) ev_non (nomark _))))) (ssv_one (sv_ret ev_bl)) ssv_nil) (ssv_cons (sv_for PassesOwn.never rfl (iv_range1 (by rfl) T.m_range ev_int) (gv_name (i := 2) sc_law.nd rfl (by first | exact .inl rfl | exact .inr rfl)) (ssv_cons (sv_set (i := 3) sc_law.nd rfl (by first | exact .inl rfl | exact .inr rfl) (by decide) (ev_add rfl ev_int (ev_call (ok__law_draw T) (hr.mono (by decide)) (by rfl) T.g__law_draw T.F__law_draw.kp T.b__law_draw (av_cons (vBor 1) (av_cons ev_int av_nil))))) (ssv_cons (sv_par (i := 4) (j := 5) rfl sc_law.nd rfl rfl (by decide) rfl rfl (by decide) (by decide) (av_cons (ev_call (ok__law_makers T) (hr.mono (by decide)) (by rfl) T.g__law_makers T.F__law_makers.kp T.b__law_makers (av_cons (vBor 1) (av_cons (vVar 3) av_nil))) (av_cons (ev_call (ok__law_makers T) (hr.mono (by decide)) (by rfl) T.g__law_makers T.F__law_makers.kp T.b__law_makers (av_cons (vBor 1) (av_cons (vVar 3) av_nil))) av_nil)) (by rfl)) (ssv_cons (sv_if (tv_cmp (op_eqD (hu64 hr)) bin_eq (ev_call (ok__law_draw T) (hr.mono (by decide)) (by rfl) T.g__law_draw T.F__law_draw.kp T.b__law_draw (av_cons (vBor 1) (av_cons ev_int av_nil))) ev_int (nomark _)) (ssv_one (sv_set (i := 5) sc_law.nd rfl (by first | exact .inl rfl | exact .inr rfl) (by decide) (ev_add rfl (ev_sl rfl (vPk 5) ov_none (ov_some ev_int)) (ev_tup (av_cons (ev_call (ok_made T) (hr.mono (by decide)) (by rfl) T.g_made T.F_made.kp T.b_made (av_cons (vVar 4) (av_cons (ev_callTy call_tuple_of cok_tuple (by rfl) T.m_tuple boot_tuple (av_cons (ev_lc (own := [("row", 7)]) rfl sc_law.nd (iv_seq rfl (vVar 4)) (blkOk_by (by rfl)) (by decide) (by decide) (fun s H C cl fp => (gv_name (i := 7) sc_law.nd rfl (by first | exact .inl rfl | exact .inr rfl))) (fun s H C cl fp => tsv_nil) (fun s H C cl fp => (ev_call (ok__law_draw T) (hr.mono (by decide)) (by rfl) T.g__law_draw T.F__law_draw.kp T.b__law_draw (av_cons (vBor 1) (av_cons ev_int av_nil)))) (s0 := s) (H0 := H)) av_nil)) av_nil))) av_nil))))) ssv_nil) (ssv_cons (sv_set (i := 6) sc_law.nd rfl (by first | exact .inl rfl | exact .inr rfl) (by decide) (ev_call (ok_common_row T) (hr.mono (by decide)) (by rfl) T.g_common_row T.F_common_row.kp T.b_common_row (av_cons (vVar 4) (av_cons (vVar 5) av_nil)))) (ssv_cons (sv_if (tv_cmp (op_neD (hu64 hr)) bin_ne (ev_cmp op_notN bin_isNot (vPk 6) ev_non (nomark _)) (ev_call (ok__law_has_common T) (hr.mono (by decide)) (by rfl) T.g__law_has_common T.F__law_has_common.kp T.b__law_has_common (av_cons (vVar 4) (av_cons (vVar 5) av_nil))) (nomark _)) (ssv_one (sv_ret ev_bl)) ssv_nil) (ssv_cons (sv_if (tv_cmp (op_neD (hu64 hr)) bin_ne (ev_cmp op_isN bin_is (ev_call (ok_common_row T) (hr.mono (by decide)) (by rfl) T.g_common_row T.F_common_row.kp T.b_common_row (av_cons (vVar 5) (av_cons (vVar 4) av_nil))) ev_non (nomark _)) (ev_cmp op_isN bin_is (vPk 6) ev_non (nomark _)) (nomark _)) (ssv_one (sv_ret ev_bl)) ssv_nil) (ssv_cons (sv_if (tv_cmp op_notN bin_isNot (vPk 6) ev_non (nomark _)) (ssv_cons (sv_if (Wv.tv (wv_or (tv_not (tv_val (ev_call (ok__law_is_made T) (hr.mono (by decide)) (by rfl) T.g__law_is_made T.F__law_is_made.kp T.b__law_is_made (av_cons (vVar 4) (av_cons (ev_callTy call_tuple_of cok_tuple (by rfl) T.m_tuple boot_tuple (av_cons (vPk 6) av_nil)) av_nil))))) (wv_or1 (tv_not (tv_val (ev_call (ok__law_is_made T) (hr.mono (by decide)) (by rfl) T.g__law_is_made T.F__law_is_made.kp T.b__law_is_made (av_cons (vVar 5) (av_cons (ev_callTy call_tuple_of cok_tuple (by rfl) T.m_tuple boot_tuple (av_cons (vPk 6) av_nil)) av_nil)))))))) (ssv_one (sv_ret ev_bl)) ssv_nil) (ssv_one (sv_if (Wv.tv (wv_or (tv_not (tv_val (ev_call (ok_is_in_span T) (hr.mono (by decide)) (by rfl) T.g_is_in_span T.F_is_in_span.kp T.b_is_in_span (av_cons (vVar 4) (av_cons (vVar 6) av_nil))))) (wv_or1 (tv_not (tv_val (ev_call (ok_is_in_span T) (hr.mono (by decide)) (by rfl) T.g_is_in_span T.F_is_in_span.kp T.b_is_in_span (av_cons (vVar 5) (av_cons (vVar 6) av_nil)))))))) (ssv_one (sv_ret ev_bl)) ssv_nil))) ssv_nil) (ssv_one (sv_if (Wv.tv (wv_or (tv_cmp op_isN bin_is (ev_call (ok_common_row T) (hr.mono (by decide)) (by rfl) T.g_common_row T.F_common_row.kp T.b_common_row (av_cons (vVar 4) (av_cons (vVar 4) av_nil))) ev_non (nomark _)) (wv_or1 (tv_cmp op_isN bin_is (ev_call (ok_common_row T) (hr.mono (by decide)) (by rfl) T.g_common_row T.F_common_row.kp T.b_common_row (av_cons (vVar 4) (av_cons (ev_sl rfl (vPk 4) ov_none (ov_some ev_int)) av_nil))) ev_non (nomark _))))) (ssv_one (sv_ret ev_bl)) ssv_nil))))))))) (by decide)) (ssv_one (sv_ret ev_bl))))))
end
theorem all_mk (hlaw : ∀ ns : List Int, ns.length ≤ 63 → ∃ as2, F_law [.fz (.scr (Ints ns))] = some (.fz (.bl true), as2)) {P : Program} {w : World} {K : PySem.W.Frag} {h : Heap} {mg : Str → Option Value} {fa : Addr} (X : K.In h) (G : h.Ns mainGlobals mg) (hfa : mg "law" = some (.ref fa))
    {f0 f1 f2 f3 f4 f5 f6 f7 f8 f9 f10 f11 f12 f13 f14 f15 f16 f17 f18 f19 f20 f21  : Addr} {od0 an0 od1 an1 od2 an2 od3 an3 od4 an4 od5 an5 od6 an6 od7 an7 od8 an8 od9 an9 od10 an10 od11 an11 od12 an12 od13 an13 od14 an14 od15 an15 od16 an16 od17 an17 od18 an18 od19 an19 od20 an20 od21 an21 : Option Addr} {sl0 sl1 sl2 sl3 sl4 sl5 sl6 sl7 sl8 sl9 sl10 sl11 sl12 sl13 sl14 sl15 sl16 sl17 sl18 sl19 sl20 sl21 : Array (Option Value)} {oc0 kV0 dc0 pm0 cd0 ct0 oc1 kV1 dc1 pm1 cd1 ct1 oc2 kV2 dc2 pm2 cd2 ct2 oc3 kV3 dc3 pm3 cd3 ct3 oc4 kV4 dc4 pm4 cd4 ct4 oc5 kV5 dc5 pm5 cd5 ct5 oc6 kV6 dc6 pm6 cd6 ct6 oc7 kV7 dc7 pm7 cd7 ct7 oc8 kV8 dc8 pm8 cd8 ct8 oc9 kV9 dc9 pm9 cd9 ct9 oc10 kV10 dc10 pm10 cd10 ct10 oc11 kV11 dc11 pm11 cd11 ct11 oc12 kV12 dc12 pm12 cd12 ct12 oc13 kV13 dc13 pm13 cd13 ct13 oc14 kV14 dc14 pm14 cd14 ct14 oc15 kV15 dc15 pm15 cd15 ct15 oc16 kV16 dc16 pm16 cd16 ct16 oc17 kV17 dc17 pm17 cd17 ct17 oc18 kV18 dc18 pm18 cd18 ct18 oc19 kV19 dc19 pm19 cd19 ct19 oc20 kV20 dc20 pm20 cd20 ct20 oc21 kV21 dc21 pm21 cd21 ct21 : Value}
    (a0 : PySem.W.nsIn K mainGlobals "_law_hand" = some (some (.ref f0)))
    (l0 : K.lookup f0 = some ⟨oc0, od0, .func (PySem.W.fnOf "_law_hand" "_law_hand" (defArgs s__law_hand) (defBody s__law_hand) (defScope s__law_hand) .none kV0 dc0 pm0 an0 cd0 ct0), sl0⟩) (c0 : PySem.W.codeIn K cd0 "_law_hand" = true) (k0 : PySem.W.keepIn K (.ref f0) = true)
    (a1 : PySem.W.nsIn K mainGlobals "is_row" = some (some (.ref f1)))
    (l1 : K.lookup f1 = some ⟨oc1, od1, .func (PySem.W.fnOf "is_row" "is_row" (defArgs s_is_row) (defBody s_is_row) (defScope s_is_row) .none kV1 dc1 pm1 an1 cd1 ct1), sl1⟩) (c1 : PySem.W.codeIn K cd1 "is_row" = true) (k1 : PySem.W.keepIn K (.ref f1) = true)
    (a2 : PySem.W.nsIn K mainGlobals "is_integer" = some (some (.ref f2)))
    (l2 : K.lookup f2 = some ⟨oc2, od2, .func (PySem.W.fnOf "is_integer" "is_integer" (defArgs s_is_integer) (defBody s_is_integer) (defScope s_is_integer) .none kV2 dc2 pm2 an2 cd2 ct2), sl2⟩) (c2 : PySem.W.codeIn K cd2 "is_integer" = true) (k2 : PySem.W.keepIn K (.ref f2) = true)
    (a3 : PySem.W.nsIn K mainGlobals "check_makers" = some (some (.ref f3)))
    (l3 : K.lookup f3 = some ⟨oc3, od3, .func (PySem.W.fnOf "check_makers" "check_makers" (defArgs s_check_makers) (defBody s_check_makers) (defScope s_check_makers) .none kV3 dc3 pm3 an3 cd3 ct3), sl3⟩) (c3 : PySem.W.codeIn K cd3 "check_makers" = true) (k3 : PySem.W.keepIn K (.ref f3) = true)
    (a4 : PySem.W.nsIn K mainGlobals "spread" = some (some (.ref f4)))
    (l4 : K.lookup f4 = some ⟨oc4, od4, .func (PySem.W.fnOf "spread" "spread" (defArgs s_spread) (defBody s_spread) (defScope s_spread) .none kV4 dc4 pm4 an4 cd4 ct4), sl4⟩) (c4 : PySem.W.codeIn K cd4 "spread" = true) (k4 : PySem.W.keepIn K (.ref f4) = true)
    (a5 : PySem.W.nsIn K mainGlobals "are_integers" = some (some (.ref f5)))
    (l5 : K.lookup f5 = some ⟨oc5, od5, .func (PySem.W.fnOf "are_integers" "are_integers" (defArgs s_are_integers) (defBody s_are_integers) (defScope s_are_integers) .none kV5 dc5 pm5 an5 cd5 ct5), sl5⟩) (c5 : PySem.W.codeIn K cd5 "are_integers" = true) (k5 : PySem.W.keepIn K (.ref f5) = true)
    (a6 : PySem.W.nsIn K mainGlobals "made" = some (some (.ref f6)))
    (l6 : K.lookup f6 = some ⟨oc6, od6, .func (PySem.W.fnOf "made" "made" (defArgs s_made) (defBody s_made) (defScope s_made) .none kV6 dc6 pm6 an6 cd6 ct6), sl6⟩) (c6 : PySem.W.codeIn K cd6 "made" = true) (k6 : PySem.W.keepIn K (.ref f6) = true)
    (a7 : PySem.W.nsIn K mainGlobals "check_like" = some (some (.ref f7)))
    (l7 : K.lookup f7 = some ⟨oc7, od7, .func (PySem.W.fnOf "check_like" "check_like" (defArgs s_check_like) (defBody s_check_like) (defScope s_check_like) .none kV7 dc7 pm7 an7 cd7 ct7), sl7⟩) (c7 : PySem.W.codeIn K cd7 "check_like" = true) (k7 : PySem.W.keepIn K (.ref f7) = true)
    (a8 : PySem.W.nsIn K mainGlobals "greatest_shifts" = some (some (.ref f8)))
    (l8 : K.lookup f8 = some ⟨oc8, od8, .func (PySem.W.fnOf "greatest_shifts" "greatest_shifts" (defArgs s_greatest_shifts) (defBody s_greatest_shifts) (defScope s_greatest_shifts) .none kV8 dc8 pm8 an8 cd8 ct8), sl8⟩) (c8 : PySem.W.codeIn K cd8 "greatest_shifts" = true) (k8 : PySem.W.keepIn K (.ref f8) = true)
    (a9 : PySem.W.nsIn K mainGlobals "nearest" = some (some (.ref f9)))
    (l9 : K.lookup f9 = some ⟨oc9, od9, .func (PySem.W.fnOf "nearest" "nearest" (defArgs s_nearest) (defBody s_nearest) (defScope s_nearest) .none kV9 dc9 pm9 an9 cd9 ct9), sl9⟩) (c9 : PySem.W.codeIn K cd9 "nearest" = true) (k9 : PySem.W.keepIn K (.ref f9) = true)
    (a10 : PySem.W.nsIn K mainGlobals "common_row" = some (some (.ref f10)))
    (l10 : K.lookup f10 = some ⟨oc10, od10, .func (PySem.W.fnOf "common_row" "common_row" (defArgs s_common_row) (defBody s_common_row) (defScope s_common_row) .none kV10 dc10 pm10 an10 cd10 ct10), sl10⟩) (c10 : PySem.W.codeIn K cd10 "common_row" = true) (k10 : PySem.W.keepIn K (.ref f10) = true)
    (a11 : PySem.W.nsIn K mainGlobals "_law_draw" = some (some (.ref f11)))
    (l11 : K.lookup f11 = some ⟨oc11, od11, .func (PySem.W.fnOf "_law_draw" "_law_draw" (defArgs s__law_draw) (defBody s__law_draw) (defScope s__law_draw) .none kV11 dc11 pm11 an11 cd11 ct11), sl11⟩) (c11 : PySem.W.codeIn K cd11 "_law_draw" = true) (k11 : PySem.W.keepIn K (.ref f11) = true)
    (a12 : PySem.W.nsIn K mainGlobals "_law_makers" = some (some (.ref f12)))
    (l12 : K.lookup f12 = some ⟨oc12, od12, .func (PySem.W.fnOf "_law_makers" "_law_makers" (defArgs s__law_makers) (defBody s__law_makers) (defScope s__law_makers) .none kV12 dc12 pm12 an12 cd12 ct12), sl12⟩) (c12 : PySem.W.codeIn K cd12 "_law_makers" = true) (k12 : PySem.W.keepIn K (.ref f12) = true)
    (a13 : PySem.W.nsIn K mainGlobals "_law_spread" = some (some (.ref f13)))
    (l13 : K.lookup f13 = some ⟨oc13, od13, .func (PySem.W.fnOf "_law_spread" "_law_spread" (defArgs s__law_spread) (defBody s__law_spread) (defScope s__law_spread) .none kV13 dc13 pm13 an13 cd13 ct13), sl13⟩) (c13 : PySem.W.codeIn K cd13 "_law_spread" = true) (k13 : PySem.W.keepIn K (.ref f13) = true)
    (a14 : PySem.W.nsIn K mainGlobals "_law_every" = some (some (.ref f14)))
    (l14 : K.lookup f14 = some ⟨oc14, od14, .func (PySem.W.fnOf "_law_every" "_law_every" (defArgs s__law_every) (defBody s__law_every) (defScope s__law_every) .none kV14 dc14 pm14 an14 cd14 ct14), sl14⟩) (c14 : PySem.W.codeIn K cd14 "_law_every" = true) (k14 : PySem.W.keepIn K (.ref f14) = true)
    (a15 : PySem.W.nsIn K mainGlobals "_law_made" = some (some (.ref f15)))
    (l15 : K.lookup f15 = some ⟨oc15, od15, .func (PySem.W.fnOf "_law_made" "_law_made" (defArgs s__law_made) (defBody s__law_made) (defScope s__law_made) .none kV15 dc15 pm15 an15 cd15 ct15), sl15⟩) (c15 : PySem.W.codeIn K cd15 "_law_made" = true) (k15 : PySem.W.keepIn K (.ref f15) = true)
    (a16 : PySem.W.nsIn K mainGlobals "_law_shifts" = some (some (.ref f16)))
    (l16 : K.lookup f16 = some ⟨oc16, od16, .func (PySem.W.fnOf "_law_shifts" "_law_shifts" (defArgs s__law_shifts) (defBody s__law_shifts) (defScope s__law_shifts) .none kV16 dc16 pm16 an16 cd16 ct16), sl16⟩) (c16 : PySem.W.codeIn K cd16 "_law_shifts" = true) (k16 : PySem.W.keepIn K (.ref f16) = true)
    (a17 : PySem.W.nsIn K mainGlobals "_law_near" = some (some (.ref f17)))
    (l17 : K.lookup f17 = some ⟨oc17, od17, .func (PySem.W.fnOf "_law_near" "_law_near" (defArgs s__law_near) (defBody s__law_near) (defScope s__law_near) .none kV17 dc17 pm17 an17 cd17 ct17), sl17⟩) (c17 : PySem.W.codeIn K cd17 "_law_near" = true) (k17 : PySem.W.keepIn K (.ref f17) = true)
    (a18 : PySem.W.nsIn K mainGlobals "_law_is_made" = some (some (.ref f18)))
    (l18 : K.lookup f18 = some ⟨oc18, od18, .func (PySem.W.fnOf "_law_is_made" "_law_is_made" (defArgs s__law_is_made) (defBody s__law_is_made) (defScope s__law_is_made) .none kV18 dc18 pm18 an18 cd18 ct18), sl18⟩) (c18 : PySem.W.codeIn K cd18 "_law_is_made" = true) (k18 : PySem.W.keepIn K (.ref f18) = true)
    (a19 : PySem.W.nsIn K mainGlobals "_law_has_common" = some (some (.ref f19)))
    (l19 : K.lookup f19 = some ⟨oc19, od19, .func (PySem.W.fnOf "_law_has_common" "_law_has_common" (defArgs s__law_has_common) (defBody s__law_has_common) (defScope s__law_has_common) .none kV19 dc19 pm19 an19 cd19 ct19), sl19⟩) (c19 : PySem.W.codeIn K cd19 "_law_has_common" = true) (k19 : PySem.W.keepIn K (.ref f19) = true)
    (a20 : PySem.W.nsIn K mainGlobals "is_in_span" = some (some (.ref f20)))
    (l20 : K.lookup f20 = some ⟨oc20, od20, .func (PySem.W.fnOf "is_in_span" "is_in_span" (defArgs s_is_in_span) (defBody s_is_in_span) (defScope s_is_in_span) .none kV20 dc20 pm20 an20 cd20 ct20), sl20⟩) (c20 : PySem.W.codeIn K cd20 "is_in_span" = true) (k20 : PySem.W.keepIn K (.ref f20) = true)
    (a21 : PySem.W.nsIn K mainGlobals "law" = some (some (.ref f21)))
    (l21 : K.lookup f21 = some ⟨oc21, od21, .func (PySem.W.fnOf "law" "law" (defArgs s_law) (defBody s_law) (defScope s_law) .none kV21 dc21 pm21 an21 cd21 ct21), sl21⟩) (c21 : PySem.W.codeIn K cd21 "law" = true) (k21 : PySem.W.keepIn K (.ref f21) = true)
    (z_abs : PySem.W.nsIn K mainGlobals "abs" = some none)
    (z_all : PySem.W.nsIn K mainGlobals "all" = some none)
    (z_bool : PySem.W.nsIn K mainGlobals "bool" = some none)
    (z_int : PySem.W.nsIn K mainGlobals "int" = some none)
    (z_isinstance : PySem.W.nsIn K mainGlobals "isinstance" = some none)
    (z_len : PySem.W.nsIn K mainGlobals "len" = some none)
    (z_list : PySem.W.nsIn K mainGlobals "list" = some none)
    (z_max : PySem.W.nsIn K mainGlobals "max" = some none)
    (z_min : PySem.W.nsIn K mainGlobals "min" = some none)
    (z_range : PySem.W.nsIn K mainGlobals "range" = some none)
    (z_sum : PySem.W.nsIn K mainGlobals "sum" = some none)
    (z_tuple : PySem.W.nsIn K mainGlobals "tuple" = some none)
    (z_zip : PySem.W.nsIn K mainGlobals "zip" = some none)
    {tk_MOST_MAKERS : Tok} (z_MOST_MAKERS : PySem.W.nsIn K mainGlobals "MOST_MAKERS" = some (some (.int 8 tk_MOST_MAKERS)))
    {tk_MOST_TURNS : Tok} (z_MOST_TURNS : PySem.W.nsIn K mainGlobals "MOST_TURNS" = some (some (.int 2000 tk_MOST_TURNS)))
    {tk_MOST_WIDE : Tok} (z_MOST_WIDE : PySem.W.nsIn K mainGlobals "MOST_WIDE" = some (some (.int 8 tk_MOST_WIDE)))
    : ∃ fd : FuncData, (∀ (s : Shared) (v : Value), BindsTo s fd ⟨[v], []⟩ [("script", v)]) ∧ ∀ base : Heap, K.In base → base.Ns mainGlobals mg → FnOk P w K mg base CX0 7 fa fd ["script"] (spEnd K) := by
  have e := hfa.symm.trans (PySem.W.mg_of X G a21)
  cases e
  have F0 := fun_mk (st := s__law_hand) l0 c0 k0
  have b0 := F0.binds (ps := ["script"]) fun _ _ _ _ _ _ us hl => match us, hl with | [_], _ => rfl
  have F1 := fun_mk (st := s_is_row) l1 c1 k1
  have b1 := F1.binds (ps := ["thing"]) fun _ _ _ _ _ _ us hl => match us, hl with | [_], _ => rfl
  have F2 := fun_mk (st := s_is_integer) l2 c2 k2
  have b2 := F2.binds (ps := ["thing"]) fun _ _ _ _ _ _ us hl => match us, hl with | [_], _ => rfl
  have F3 := fun_mk (st := s_check_makers) l3 c3 k3
  have b3 := F3.binds (ps := ["rows"]) fun _ _ _ _ _ _ us hl => match us, hl with | [_], _ => rfl
  have F4 := fun_mk (st := s_spread) l4 c4 k4
  have b4 := F4.binds (ps := ["rows"]) fun _ _ _ _ _ _ us hl => match us, hl with | [_], _ => rfl
  have F5 := fun_mk (st := s_are_integers) l5 c5 k5
  have b5 := F5.binds (ps := ["thing", "many"]) fun _ _ _ _ _ _ us hl => match us, hl with | [_, _], _ => rfl
  have F6 := fun_mk (st := s_made) l6 c6 k6
  have b6 := F6.binds (ps := ["rows", "shifts"]) fun _ _ _ _ _ _ us hl => match us, hl with | [_, _], _ => rfl
  have F7 := fun_mk (st := s_check_like) l7 c7 k7
  have b7 := F7.binds (ps := ["rows", "row"]) fun _ _ _ _ _ _ us hl => match us, hl with | [_, _], _ => rfl
  have F8 := fun_mk (st := s_greatest_shifts) l8 c8 k8
  have b8 := F8.binds (ps := ["rows", "row"]) fun _ _ _ _ _ _ us hl => match us, hl with | [_, _], _ => rfl
  have F9 := fun_mk (st := s_nearest) l9 c9 k9
  have b9 := F9.binds (ps := ["rows", "row"]) fun _ _ _ _ _ _ us hl => match us, hl with | [_, _], _ => rfl
  have F10 := fun_mk (st := s_common_row) l10 c10 k10
  have b10 := F10.binds (ps := ["one", "other"]) fun _ _ _ _ _ _ us hl => match us, hl with | [_, _], _ => rfl
  have F11 := fun_mk (st := s__law_draw) l11 c11 k11
  have b11 := F11.binds (ps := ["hand", "bound"]) fun _ _ _ _ _ _ us hl => match us, hl with | [_, _], _ => rfl
  have F12 := fun_mk (st := s__law_makers) l12 c12 k12
  have b12 := F12.binds (ps := ["hand", "wide"]) fun _ _ _ _ _ _ us hl => match us, hl with | [_, _], _ => rfl
  have F13 := fun_mk (st := s__law_spread) l13 c13 k13
  have b13 := F13.binds (ps := ["makers", "others"]) fun _ _ _ _ _ _ us hl => match us, hl with | [_, _], _ => rfl
  have F14 := fun_mk (st := s__law_every) l14 c14 k14
  have b14 := F14.binds (ps := ["low", "high", "many"]) fun _ _ _ _ _ _ us hl => match us, hl with | [_, _, _], _ => rfl
  have F15 := fun_mk (st := s__law_made) l15 c15 k15
  have b15 := F15.binds (ps := ["makers", "shifts"]) fun _ _ _ _ _ _ us hl => match us, hl with | [_, _], _ => rfl
  have F16 := fun_mk (st := s__law_shifts) l16 c16 k16
  have b16 := F16.binds (ps := ["makers", "row"]) fun _ _ _ _ _ _ us hl => match us, hl with | [_, _], _ => rfl
  have F17 := fun_mk (st := s__law_near) l17 c17 k17
  have b17 := F17.binds (ps := ["makers", "row"]) fun _ _ _ _ _ _ us hl => match us, hl with | [_, _], _ => rfl
  have F18 := fun_mk (st := s__law_is_made) l18 c18 k18
  have b18 := F18.binds (ps := ["makers", "row"]) fun _ _ _ _ _ _ us hl => match us, hl with | [_, _], _ => rfl
  have F19 := fun_mk (st := s__law_has_common) l19 c19 k19
  have b19 := F19.binds (ps := ["makers", "others"]) fun _ _ _ _ _ _ us hl => match us, hl with | [_, _], _ => rfl
  have F20 := fun_mk (st := s_is_in_span) l20 c20 k20
  have b20 := F20.binds (ps := ["rows", "row"]) fun _ _ _ _ _ _ us hl => match us, hl with | [_, _], _ => rfl
  have F21 := fun_mk (st := s_law) l21 c21 k21
  have b21 := F21.binds (ps := ["script"]) fun _ _ _ _ _ _ us hl => match us, hl with | [_], _ => rfl
  have hT : ∃ T : Tx K mg, T.f_law = fa ∧ ∀ (s : Shared) (v : Value), BindsTo s T.d_law ⟨[v], []⟩ [("script", v)] := ⟨{
    f__law_hand := f0, d__law_hand := _, F__law_hand := F0, b__law_hand := b0,
    g__law_hand := PySem.W.mg_of X G a0,
    f_is_row := f1, d_is_row := _, F_is_row := F1, b_is_row := b1,
    g_is_row := PySem.W.mg_of X G a1,
    f_is_integer := f2, d_is_integer := _, F_is_integer := F2, b_is_integer := b2,
    g_is_integer := PySem.W.mg_of X G a2,
    f_check_makers := f3, d_check_makers := _, F_check_makers := F3, b_check_makers := b3,
    g_check_makers := PySem.W.mg_of X G a3,
    f_spread := f4, d_spread := _, F_spread := F4, b_spread := b4,
    g_spread := PySem.W.mg_of X G a4,
    f_are_integers := f5, d_are_integers := _, F_are_integers := F5, b_are_integers := b5,
    g_are_integers := PySem.W.mg_of X G a5,
    f_made := f6, d_made := _, F_made := F6, b_made := b6,
    g_made := PySem.W.mg_of X G a6,
    f_check_like := f7, d_check_like := _, F_check_like := F7, b_check_like := b7,
    g_check_like := PySem.W.mg_of X G a7,
    f_greatest_shifts := f8, d_greatest_shifts := _, F_greatest_shifts := F8, b_greatest_shifts := b8,
    g_greatest_shifts := PySem.W.mg_of X G a8,
    f_nearest := f9, d_nearest := _, F_nearest := F9, b_nearest := b9,
    g_nearest := PySem.W.mg_of X G a9,
    f_common_row := f10, d_common_row := _, F_common_row := F10, b_common_row := b10,
    g_common_row := PySem.W.mg_of X G a10,
    f__law_draw := f11, d__law_draw := _, F__law_draw := F11, b__law_draw := b11,
    g__law_draw := PySem.W.mg_of X G a11,
    f__law_makers := f12, d__law_makers := _, F__law_makers := F12, b__law_makers := b12,
    g__law_makers := PySem.W.mg_of X G a12,
    f__law_spread := f13, d__law_spread := _, F__law_spread := F13, b__law_spread := b13,
    g__law_spread := PySem.W.mg_of X G a13,
    f__law_every := f14, d__law_every := _, F__law_every := F14, b__law_every := b14,
    g__law_every := PySem.W.mg_of X G a14,
    f__law_made := f15, d__law_made := _, F__law_made := F15, b__law_made := b15,
    g__law_made := PySem.W.mg_of X G a15,
    f__law_shifts := f16, d__law_shifts := _, F__law_shifts := F16, b__law_shifts := b16,
    g__law_shifts := PySem.W.mg_of X G a16,
    f__law_near := f17, d__law_near := _, F__law_near := F17, b__law_near := b17,
    g__law_near := PySem.W.mg_of X G a17,
    f__law_is_made := f18, d__law_is_made := _, F__law_is_made := F18, b__law_is_made := b18,
    g__law_is_made := PySem.W.mg_of X G a18,
    f__law_has_common := f19, d__law_has_common := _, F__law_has_common := F19, b__law_has_common := b19,
    g__law_has_common := PySem.W.mg_of X G a19,
    f_is_in_span := f20, d_is_in_span := _, F_is_in_span := F20, b_is_in_span := b20,
    g_is_in_span := PySem.W.mg_of X G a20,
    f_law := _, d_law := _, F_law := F21, b_law := b21,
    g_law := PySem.W.mg_of X G a21,
    m_abs := PySem.W.mg_none_of X G z_abs,
    m_all := PySem.W.mg_none_of X G z_all,
    m_bool := PySem.W.mg_none_of X G z_bool,
    m_int := PySem.W.mg_none_of X G z_int,
    m_isinstance := PySem.W.mg_none_of X G z_isinstance,
    m_len := PySem.W.mg_none_of X G z_len,
    m_list := PySem.W.mg_none_of X G z_list,
    m_max := PySem.W.mg_none_of X G z_max,
    m_min := PySem.W.mg_none_of X G z_min,
    m_range := PySem.W.mg_none_of X G z_range,
    m_sum := PySem.W.mg_none_of X G z_sum,
    m_tuple := PySem.W.mg_none_of X G z_tuple,
    m_zip := PySem.W.mg_none_of X G z_zip,
    k_MOST_MAKERS := ⟨_, PySem.W.mg_of X G z_MOST_MAKERS, _, rfl⟩,
    k_MOST_TURNS := ⟨_, PySem.W.mg_of X G z_MOST_TURNS, _, rfl⟩,
    k_MOST_WIDE := ⟨_, PySem.W.mg_of X G z_MOST_WIDE, _, rfl⟩ }, rfl, fun s v => .of_eq rfl⟩
  obtain ⟨T, eT, hb⟩ := hT
  exact ⟨T.d_law, hb, fun base _ _ => eT ▸ end_of (ok_law T) rfl hlaw⟩
end Wk24
set_option Elab.async false
set_option linter.all false
set_option maxRecDepth 100000
set_option maxHeartbeats 1000000
namespace Wk24
open PySem PL
/-! rows made of others: the plain part -/
def sh (r row : List Int) : Int := minL (List.zipWith (fun a b => b - a) r row)
def nea (A : List (List Int)) (w : Nat) (row : List Int) : List Int := (List.range w).map fun j => maxL (A.map fun r => r.getD j 0 + sh r row)
structure Mk (A : List (List Int)) (w : Nat) : Prop where
  w1 : 1 ≤ w
  n1 : 1 ≤ A.length
  ln : ∀ r ∈ A, r.length = w
theorem nea_len (A : List (List Int)) (w : Nat) (row : List Int) : (nea A w row).length = w := by unfold nea; simp
theorem nea_get {A : List (List Int)} {w j : Nat} {row : List Int} (hj : j < w) : (nea A w row).getD j 0 = maxL (A.map fun r => r.getD j 0 + sh r row) := by
  unfold nea
  rw [List.getD_eq_getElem?_getD, List.getElem?_map, List.getElem?_range hj]
  rfl
theorem gd {xs : List Int} {j : Nat} (h : j < xs.length) : xs.getD j 0 = xs[j] := by rw [List.getD_eq_getElem?_getD, List.getElem?_eq_getElem h]; rfl
theorem zw_at {f : Int → Int → Int} {a b : List Int} {j : Nat} (h1 : j < a.length) (h2 : j < b.length) : f (a.getD j 0) (b.getD j 0) ∈ List.zipWith f a b := by
  refine List.mem_iff_getElem?.mpr ⟨j, ?_⟩
  rw [List.getElem?_zipWith, List.getElem?_eq_getElem h1, List.getElem?_eq_getElem h2, gd h1, gd h2]
theorem zw_of {f : Int → Int → Int} {a b : List Int} {x : Int} (h : x ∈ List.zipWith f a b) : ∃ j, j < a.length ∧ j < b.length ∧ x = f (a.getD j 0) (b.getD j 0) := by
  obtain ⟨j, hj⟩ := List.mem_iff_getElem?.mp h
  rw [List.getElem?_zipWith] at hj
  by_cases h1 : j < a.length
  · by_cases h2 : j < b.length
    · rw [List.getElem?_eq_getElem h1, List.getElem?_eq_getElem h2] at hj
      refine ⟨j, h1, h2, ?_⟩
      rw [gd h1, gd h2]
      simpa using hj.symm
    · rw [List.getElem?_eq_none (l := b) (by omega)] at hj
      simp at hj
  · rw [List.getElem?_eq_none (l := a) (by omega)] at hj
    simp at hj
theorem sh_le {r row : List Int} {w k : Nat} (h1 : r.length = w) (h2 : row.length = w) (hk : k < w) : sh r row ≤ row.getD k 0 - r.getD k 0 :=
  minL_le (zw_at (f := fun a b => b - a) (by omega) (by omega))
theorem sh_at {r row : List Int} {w : Nat} (h1 : r.length = w) (h2 : row.length = w) (hw : 1 ≤ w) : ∃ k, k < w ∧ sh r row = row.getD k 0 - r.getD k 0 := by
  have hn : List.zipWith (fun a b : Int => b - a) r row ≠ [] := fun z => by
    have := congrArg List.length z
    rw [List.length_zipWith] at this
    simp only [List.length_nil] at this
    omega
  obtain ⟨k, a, b, e⟩ := zw_of (minL_mem hn)
  exact ⟨k, by omega, e⟩
theorem nea_ge {A : List (List Int)} {w j : Nat} {row r : List Int} (hr : r ∈ A) (hj : j < w) : r.getD j 0 + sh r row ≤ (nea A w row).getD j 0 := by
  rw [nea_get hj]
  exact maxL_ge (List.mem_map.mpr ⟨r, hr, rfl⟩)
theorem nea_at {A : List (List Int)} {w j : Nat} (row : List Int) (H : Mk A w) (hj : j < w) : ∃ r ∈ A, (nea A w row).getD j 0 = r.getD j 0 + sh r row := by
  rw [nea_get hj]
  have hn : (A.map fun r => r.getD j 0 + sh r row) ≠ [] := fun z => by
    have := congrArg List.length z
    rw [List.length_map] at this
    have := H.n1
    simp only [List.length_nil] at *
    omega
  obtain ⟨r, hr, e⟩ := List.mem_map.mp (maxL_mem hn)
  exact ⟨r, hr, e.symm⟩
/-- nowhere later -/
def Le (w : Nat) (a b : List Int) : Prop := ∀ j, j < w → a.getD j 0 ≤ b.getD j 0
theorem ext_gd {w : Nat} {a b : List Int} (h1 : a.length = w) (h2 : b.length = w) (h : ∀ j, j < w → a.getD j 0 = b.getD j 0) : a = b := by
  refine List.ext_getElem (by omega) fun j p q => ?_
  have := h j (by omega)
  rwa [gd p, gd q] at this
theorem Le.antisymm {w : Nat} {a b : List Int} (h1 : a.length = w) (h2 : b.length = w) (x : Le w a b) (y : Le w b a) : a = b := ext_gd h1 h2 fun j hj => Int.le_antisymm (x j hj) (y j hj)
theorem Le.trans {w : Nat} {a b c : List Int} (x : Le w a b) (y : Le w b c) : Le w a c := fun j hj => Int.le_trans (x j hj) (y j hj)
theorem nea_le {A : List (List Int)} {w : Nat} {row : List Int} (H : Mk A w) (hl : row.length = w) : Le w (nea A w row) row := fun j hj => by
  obtain ⟨r, hr, e⟩ := nea_at row H hj
  have := sh_le (H.ln r hr) hl hj
  omega
theorem sh_mono {r a b : List Int} {w : Nat} (h0 : r.length = w) (h1 : a.length = w) (h2 : b.length = w) (hw : 1 ≤ w) (h : Le w a b) : sh r a ≤ sh r b := by
  obtain ⟨k, hk, e⟩ := sh_at h0 h2 hw
  have := sh_le h0 h1 hk
  have := h k hk
  omega
theorem nea_mono {A : List (List Int)} {w : Nat} {a b : List Int} (H : Mk A w) (h1 : a.length = w) (h2 : b.length = w) (h : Le w a b) : Le w (nea A w a) (nea A w b) := fun j hj => by
  obtain ⟨r, hr, e⟩ := nea_at a H hj
  have := sh_mono (H.ln r hr) h1 h2 H.w1 h
  have := nea_ge (row := b) hr hj
  omega
def up (t : Int) (a : List Int) : List Int := a.map (· + t)
theorem up_len (t : Int) (a : List Int) : (up t a).length = a.length := by unfold up; simp
theorem up_get {t : Int} {a : List Int} {j : Nat} (h : j < a.length) : (up t a).getD j 0 = a.getD j 0 + t := by
  rw [gd (by rw [up_len]; exact h), gd h]
  unfold up
  rw [List.getElem_map]
theorem sh_up {r a : List Int} {w : Nat} {t : Int} (h0 : r.length = w) (h1 : a.length = w) (hw : 1 ≤ w) : sh r (up t a) = sh r a + t := by
  refine Int.le_antisymm ?_ ?_
  · obtain ⟨k, hk, e⟩ := sh_at h0 h1 hw
    have := sh_le (row := up t a) h0 (by rw [up_len]; exact h1) hk
    rw [up_get (by omega)] at this
    omega
  · obtain ⟨k, hk, e⟩ := sh_at (row := up t a) h0 (by rw [up_len]; exact h1) hw
    have := sh_le h0 h1 hk
    rw [up_get (by omega)] at e
    omega
theorem nea_up {A : List (List Int)} {w : Nat} {a : List Int} {t : Int} (H : Mk A w) (h1 : a.length = w) : nea A w (up t a) = up t (nea A w a) := by
  refine ext_gd (w := w) (nea_len _ _ _) (by rw [up_len, nea_len]) fun j hj => ?_
  rw [up_get (by rw [nea_len]; exact hj)]
  refine Int.le_antisymm ?_ ?_
  · obtain ⟨r, hr, e⟩ := nea_at (up t a) H hj
    rw [sh_up (H.ln r hr) h1 H.w1] at e
    have := nea_ge (row := a) hr hj
    omega
  · obtain ⟨r, hr, e⟩ := nea_at a H hj
    have := nea_ge (row := up t a) hr hj
    rw [sh_up (H.ln r hr) h1 H.w1] at this
    omega
/-- a row of the span -/
def In (A : List (List Int)) (w : Nat) (c : List Int) : Prop := c.length = w ∧ nea A w c = c
theorem In.up {A : List (List Int)} {w : Nat} {c : List Int} (t : Int) (H : Mk A w) (h : In A w c) : In A w (up t c) := ⟨by rw [up_len]; exact h.1, by rw [nea_up H h.1, h.2]⟩
theorem In.self {A : List (List Int)} {w : Nat} {r : List Int} (H : Mk A w) (hr : r ∈ A) : In A w r := by
  have hl := H.ln r hr
  refine ⟨hl, Le.antisymm (nea_len _ _ _) hl (nea_le H hl) fun j hj => ?_⟩
  have h1 := nea_ge (row := r) hr hj
  obtain ⟨k, hk, e⟩ := sh_at hl hl H.w1
  omega
/-- how far items of a row lie apart -/
def oscl (r : List Int) : Int := maxL r - minL r
theorem In.osc {A : List (List Int)} {w : Nat} {c : List Int} (H : Mk A w) (h : In A w c) {j k : Nat} (hj : j < w) (hk : k < w) : ∃ r ∈ A, c.getD j 0 - c.getD k 0 ≤ oscl r := by
  obtain ⟨r, hr, e⟩ := nea_at c H hj
  rw [h.2] at e
  have h2 := nea_ge (row := c) hr hk
  rw [h.2] at h2
  refine ⟨r, hr, ?_⟩
  have hl := H.ln r hr
  have a1 : r.getD j 0 ≤ maxL r := by rw [gd (by omega)]; exact maxL_ge (List.getElem_mem _)
  have a2 : minL r ≤ r.getD k 0 := by rw [gd (by omega)]; exact minL_le (List.getElem_mem _)
  unfold oscl
  omega
theorem osc_pos {r : List Int} (h : r ≠ []) : 0 ≤ oscl r := by
  have := maxL_ge (minL_mem h)
  unfold oscl
  omega
/-- going down in turn -/
def cgo (A B : List (List Int)) (w : Nat) (bot : Int) : Nat → List Int → Option (Option (List Int))
  | 0, _ => none
  | n + 1, here => if minL here < bot then some none else if nea A w (nea B w here) = here then some (some here) else cgo A B w bot n (nea A w (nea B w here))
section
variable {A B : List (List Int)} {w : Nat} {bot : Int}
theorem cgo_some (HA : Mk A w) (HB : Mk B w) : ∀ (n : Nat) {here r : List Int}, here.length = w → cgo A B w bot n here = some (some r) → In A w r ∧ In B w r
  | 0, _, _, _, h => by cases h
  | n + 1, here, r, hl, h => by
    unfold cgo at h
    split at h
    · cases h
    · split at h
      · rename_i e
        cases h
        have l1 : (nea B w here).length = w := nea_len _ _ _
        have s1 := nea_le HB hl
        have s2 := nea_le HA l1
        rw [e] at s2
        have e2 := Le.antisymm l1 hl s1 s2
        rw [e2] at e
        exact ⟨⟨hl, e⟩, ⟨hl, e2⟩⟩
      · exact cgo_some HA HB n (nea_len _ _ _) h
theorem minL_at {xs : List Int} (h : 1 ≤ xs.length) : ∃ k, k < xs.length ∧ minL xs = xs.getD k 0 := by
  have hn : xs ≠ [] := fun z => by rw [z] at h; simp at h
  obtain ⟨k, hk, e⟩ := List.mem_iff_getElem.mp (minL_mem hn)
  exact ⟨k, hk, by rw [gd hk]; exact e.symm⟩
theorem minL_lb {xs : List Int} {k : Nat} (h : k < xs.length) : minL xs ≤ xs.getD k 0 := by rw [gd h]; exact minL_le (List.getElem_mem _)
theorem maxL_ub {xs : List Int} {k : Nat} (h : k < xs.length) : xs.getD k 0 ≤ maxL xs := by rw [gd h]; exact maxL_ge (List.getElem_mem _)
/-- a common row that stays above the bottom keeps the way from ending in None -/
theorem cgo_none (HA : Mk A w) (HB : Mk B w) {c : List Int} (a : In A w c) (b : In B w c) (hb : bot ≤ minL c) : ∀ (n : Nat) {here : List Int}, here.length = w → Le w c here → cgo A B w bot n here ≠ some none
  | 0, _, _, _, h => by cases h
  | n + 1, here, hl, hc, h => by
    unfold cgo at h
    split at h
    · rename_i q
      obtain ⟨k, hk, e⟩ := minL_at (xs := here) (by have := HA.w1; omega)
      have h1 := hc k (by omega)
      have h2 := minL_lb (xs := c) (k := k) (by rw [a.1]; omega)
      omega
    · split at h
      · cases h
      · refine cgo_none HA HB a b hb n (nea_len _ _ _) ?_ h
        have s1 := nea_mono HB b.1 hl hc
        rw [b.2] at s1
        have s2 := nea_mono HA a.1 (nea_len _ _ _) s1
        rw [a.2] at s2
        exact s2
/-- the sum falls -/
theorem sum_le : ∀ {w : Nat} {a b : List Int}, a.length = w → b.length = w → Le w a b → a.sum ≤ b.sum
  | 0, [], [], _, _, _ => Int.le_refl _
  | w + 1, x :: a, y :: b, h1, h2, h => by
    have h0 := h 0 (by omega)
    have := sum_le (w := w) (a := a) (b := b) (by simpa using h1) (by simpa using h2) fun j hj => by simpa using h (j + 1) (by omega)
    simp only [List.getD_cons_zero] at h0
    simp only [List.sum_cons]
    omega
theorem sum_lt : ∀ {w : Nat} {a b : List Int}, a.length = w → b.length = w → Le w a b → a ≠ b → a.sum < b.sum
  | 0, [], [], _, _, _, n => absurd rfl n
  | w + 1, x :: a, y :: b, h1, h2, h, n => by
    have h0 := h 0 (by omega)
    simp only [List.getD_cons_zero] at h0
    have ht : Le w a b := fun j hj => by simpa using h (j + 1) (by omega)
    have l1 : a.length = w := by simpa using h1
    have l2 : b.length = w := by simpa using h2
    simp only [List.sum_cons]
    by_cases e : a = b
    · subst e
      have : x ≠ y := fun z => n (by rw [z])
      omega
    · have := sum_lt l1 l2 ht e
      omega
theorem sum_min : ∀ {a : List Int} {m : Int}, (∀ x ∈ a, m ≤ x) → (a.length : Int) * m ≤ a.sum
  | [], _, _ => by simp
  | x :: a, m, h => by
    have := sum_min (a := a) (m := m) fun y hy => h y (List.mem_cons_of_mem _ hy)
    have h0 := h x List.mem_cons_self
    rw [List.sum_cons, List.length_cons, Int.natCast_add, Int.add_mul]
    omega
theorem sum_max : ∀ {a : List Int} {m : Int}, (∀ x ∈ a, x ≤ m) → a.sum ≤ (a.length : Int) * m
  | [], _, _ => by simp
  | x :: a, m, h => by
    have := sum_max (a := a) (m := m) fun y hy => h y (List.mem_cons_of_mem _ hy)
    have h0 := h x List.mem_cons_self
    rw [List.sum_cons, List.length_cons, Int.natCast_add, Int.add_mul]
    omega
theorem cgo_ends (HA : Mk A w) (HB : Mk B w) : ∀ (n : Nat) {here : List Int}, here.length = w → cgo A B w bot n here = none → n = 0 ∨ (n : Int) ≤ here.sum - w * bot + 1
  | 0, _, _, _ => .inl rfl
  | n + 1, here, hl, h => by
    unfold cgo at h
    split at h
    · cases h
    · rename_i q
      have hs : (w : Int) * bot ≤ here.sum := by
        have := sum_min (a := here) (m := bot) fun x hx => by
          have := minL_le hx
          omega
        rwa [hl] at this
      split at h
      · cases h
      · rename_i ne
        have l1 : (nea B w here).length = w := nea_len _ _ _
        have l2 : (nea A w (nea B w here)).length = w := nea_len _ _ _
        have dn := sum_lt l2 hl ((nea_le HA l1).trans (nea_le HB hl)) ne
        rcases cgo_ends HA HB n l2 h with z | z
        · right; omega
        · right; omega
end
end Wk24
set_option Elab.async false
set_option linter.all false
set_option maxRecDepth 100000
set_option maxHeartbeats 1000000
namespace Wk24
open PySem PL
/-- makers as the law draws them -/
structure Ok (A : List (List Int)) (w : Nat) : Prop where
  km : Mk A w
  n3 : A.length ≤ 3
  w3 : w ≤ 3
  bd : ∀ r ∈ A, ∀ x ∈ r, -3 ≤ x ∧ x ≤ 9
def spr (A : List (List Int)) (w : Nat) : Int := (A.map oscl).sum * w
def bott (A B : List (List Int)) (w : Nat) : Int := minL (A.getD 0 []) - spr A w - spr B w - 1
def cmn (A B : List (List Int)) (w : Nat) : Option (Option (List Int)) := cgo A B w (bott A B w) 2000 (A.getD 0 [])
section
variable {A B : List (List Int)} {w : Nat}
theorem Ok.hd (H : Ok A w) : A.getD 0 [] ∈ A := by
  have := H.km.n1
  rw [List.getD_eq_getElem?_getD, List.getElem?_eq_getElem (by omega)]
  exact List.getElem_mem _
theorem Ok.ne (H : Ok A w) {r : List Int} (hr : r ∈ A) : r ≠ [] := fun z => by
  have h1 := H.km.ln r hr
  have h2 := H.km.w1
  rw [z] at h1
  simp only [List.length_nil] at h1
  omega
theorem Ok.osc (H : Ok A w) {r : List Int} (hr : r ∈ A) : 0 ≤ oscl r ∧ oscl r ≤ 12 := by
  refine ⟨osc_pos (H.ne hr), ?_⟩
  have h1 := H.bd r hr _ (maxL_mem (H.ne hr))
  have h2 := H.bd r hr _ (minL_mem (H.ne hr))
  unfold oscl
  omega
theorem sum_mem : ∀ {xs : List Int} {x : Int}, (∀ y ∈ xs, 0 ≤ y) → x ∈ xs → x ≤ xs.sum
  | y :: ys, x, h, hx => by
    have h0 := h y List.mem_cons_self
    have h1 := sum_min (a := ys) (m := 0) fun z hz => h z (List.mem_cons_of_mem _ hz)
    rw [Int.mul_zero] at h1
    rw [List.sum_cons]
    rcases List.mem_cons.mp hx with e | e
    · omega
    · have := sum_mem (fun z hz => h z (List.mem_cons_of_mem _ hz)) e
      omega
theorem Ok.spr (H : Ok A w) : 0 ≤ spr A w ∧ spr A w ≤ 108 ∧ ∀ r ∈ A, oscl r ≤ spr A w := by
  have hp : ∀ y ∈ A.map oscl, 0 ≤ y := fun y hy => by
    obtain ⟨r, hr, rfl⟩ := List.mem_map.mp hy
    exact (H.osc hr).1
  have h0 := sum_min hp
  rw [Int.mul_zero] at h0
  have h1 := sum_max (a := A.map oscl) (m := 12) fun y hy => by
    obtain ⟨r, hr, rfl⟩ := List.mem_map.mp hy
    exact (H.osc hr).2
  rw [List.length_map] at h1
  have n3 := H.n3
  have hw : w = 1 ∨ w = 2 ∨ w = 3 := by have := H.w3; have := H.km.w1; omega
  have hm : ∀ r ∈ A, oscl r ≤ (A.map oscl).sum := fun r hr => sum_mem hp (List.mem_map.mpr ⟨r, hr, rfl⟩)
  unfold Wk24.spr
  rcases hw with rfl | rfl | rfl
  · exact ⟨by omega, by omega, fun r hr => by have := hm r hr; omega⟩
  · exact ⟨by omega, by omega, fun r hr => by have := hm r hr; omega⟩
  · exact ⟨by omega, by omega, fun r hr => by have := hm r hr; omega⟩
/-- a common row may be put so that it touches another row from below -/
theorem touch {c h : List Int} (hc : c.length = w) (hh : h.length = w) (hw : 1 ≤ w) : ∃ t k, k < w ∧ Le w (up t c) h ∧ (up t c).getD k 0 = h.getD k 0 := by
  obtain ⟨k, hk, e⟩ := sh_at hc hh hw
  refine ⟨sh c h, k, hk, fun j hj => ?_, ?_⟩
  · rw [up_get (by omega)]
    have := sh_le hc hh hj
    omega
  · rw [up_get (by omega)]
    omega
theorem cmn_spec (HA : Ok A w) (HB : Ok B w) : (∃ r, cmn A B w = some (some r) ∧ In A w r ∧ In B w r) ∨ (cmn A B w = some none ∧ ∀ c, In A w c → ¬ In B w c) := by
  have hl : (A.getD 0 []).length = w := HA.km.ln _ HA.hd
  obtain ⟨a0, a1, a2⟩ := HA.spr
  obtain ⟨b0, b1, b2⟩ := HB.spr
  have hw : w = 1 ∨ w = 2 ∨ w = 3 := by have := HA.w3; have := HA.km.w1; omega
  cases e : cmn A B w with
  | none =>
    exfalso
    have hs := sum_max (a := A.getD 0 []) (m := 9) fun x hx => (HA.bd _ HA.hd x hx).2
    rw [hl] at hs
    have hm := (HA.bd _ HA.hd _ (minL_mem (HA.ne HA.hd))).1
    have hb : -220 ≤ bott A B w := by unfold bott; omega
    rcases cgo_ends HA.km HB.km 2000 hl e with z | z
    · omega
    · rcases hw with rfl | rfl | rfl <;> omega
  | some o =>
    cases o with
    | some r => exact .inl ⟨r, rfl, cgo_some HA.km HB.km 2000 hl e⟩
    | none =>
      refine .inr ⟨rfl, fun c ca cb => ?_⟩
      obtain ⟨t, k, hk, h1, h2⟩ := touch ca.1 hl HA.km.w1
      refine cgo_none HA.km HB.km (ca.up t HA.km) (cb.up t HB.km) ?_ 2000 hl h1 e
      have cl : (up t c).length = w := by rw [up_len]; exact ca.1
      obtain ⟨m, hm, em⟩ := minL_at (xs := up t c) (by have := HA.km.w1; omega)
      obtain ⟨r, hr, ho⟩ := In.osc HA.km (ca.up t HA.km) hk (k := m) (by omega)
      have := a2 r hr
      have := minL_lb (xs := A.getD 0 []) (k := k) (by omega)
      unfold bott
      omega
def lfar (A B : List (List Int)) : Int := maxL (0 :: (A ++ B).map oscl)
theorem far_ge {r : List Int} (h : r ∈ A ++ B) : oscl r ≤ lfar A B := maxL_ge (List.mem_cons_of_mem _ (List.mem_map.mpr ⟨r, h, rfl⟩))
theorem far_12 (HA : Ok A w) (HB : Ok B w) : 0 ≤ lfar A B ∧ lfar A B ≤ 12 := by
  refine ⟨maxL_ge List.mem_cons_self, ?_⟩
  have := maxL_mem (ns := 0 :: (A ++ B).map oscl) (by simp)
  rcases List.mem_cons.mp this with e | e
  · unfold lfar; omega
  · obtain ⟨r, hr, e⟩ := List.mem_map.mp e
    unfold lfar
    rcases List.mem_append.mp hr with z | z
    · have := (HA.osc z).2; omega
    · have := (HB.osc z).2; omega
/-- all rows of a box -/
def evr (lo : Int) (n : Nat) : Nat → List (List Int)
  | 0 => [[]]
  | k + 1 => (evr lo n k).flatMap fun s => (List.range n).map fun i => s ++ [lo + (i : Nat)]
theorem evr_mem {lo : Int} {n : Nat} : ∀ {k : Nat} {r : List Int}, r.length = k → (∀ x ∈ r, lo ≤ x ∧ x < lo + n) → r ∈ evr lo n k
  | 0, r, hl, _ => by
    rw [List.length_eq_zero_iff.mp hl]
    exact List.mem_singleton.mpr rfl
  | k + 1, r, hl, h => by
    have hn : r ≠ [] := fun z => by rw [z] at hl; simp at hl
    have e := List.dropLast_concat_getLast hn
    have hx := h _ (List.getLast_mem hn)
    rw [← e]
    refine List.mem_flatMap.mpr ⟨r.dropLast, evr_mem (by rw [List.length_dropLast]; omega) fun x hx => h x (List.dropLast_subset _ hx), List.mem_map.mpr ⟨(r.getLast hn - lo).toNat, List.mem_range.mpr (by omega), ?_⟩⟩
    rw [show lo + (((r.getLast hn - lo).toNat : Nat) : Int) = r.getLast hn by omega]
theorem evr_len {lo : Int} {n : Nat} : ∀ {k : Nat} {r : List Int}, r ∈ evr lo n k → r.length = k
  | 0, r, h => by rw [List.mem_singleton.mp h]; rfl
  | k + 1, r, h => by
    obtain ⟨s, hs, h2⟩ := List.mem_flatMap.mp h
    obtain ⟨i, _, rfl⟩ := List.mem_map.mp h2
    rw [List.length_append, evr_len hs]; rfl
theorem evr_count {lo : Int} {n : Nat} : ∀ k : Nat, (evr lo n k).length = n ^ k
  | 0 => rfl
  | k + 1 => by
    have : ∀ xs : List (List Int), (xs.flatMap fun s => (List.range n).map fun i => s ++ [lo + (i : Nat)]).length = xs.length * n := by
      intro xs
      induction xs with
      | nil => simp
      | cons x xs ih => rw [List.flatMap_cons, List.length_append, ih, List.length_map, List.length_range, List.length_cons, Nat.succ_mul, Nat.add_comm]
    rw [evr, this, evr_count k, Nat.pow_succ]
def hasC (A B : List (List Int)) (w : Nat) : Bool := (evr (0 - lfar A B) (lfar A B + 1 - (0 - lfar A B)).toNat (w - 1)).any fun r => (nea A w (0 :: r) == 0 :: r) && (nea B w (0 :: r) == 0 :: r)
theorem hasC_iff (HA : Ok A w) (HB : Ok B w) : hasC A B w = true ↔ ∃ c, In A w c ∧ In B w c := by
  have w1 := HA.km.w1
  obtain ⟨f0, f1⟩ := far_12 HA HB
  unfold hasC
  rw [List.any_eq_true]
  constructor
  · rintro ⟨r, hr, h⟩
    rw [Bool.and_eq_true] at h
    have hl := evr_len hr
    exact ⟨0 :: r, ⟨by rw [List.length_cons]; omega, eq_of_beq h.1⟩, ⟨by rw [List.length_cons]; omega, eq_of_beq h.2⟩⟩
  · rintro ⟨c, ca, cb⟩
    have da := ca.up (-(c.getD 0 0)) HA.km
    have db := cb.up (-(c.getD 0 0)) HB.km
    have h0 : (up (-(c.getD 0 0)) c).getD 0 0 = 0 := by rw [up_get (by rw [ca.1]; omega)]; omega
    generalize up (-(c.getD 0 0)) c = d at da db h0
    match d, da, db, h0 with
    | x :: r, da, db, h0 =>
      rw [List.getD_cons_zero] at h0
      subst h0
      have dl := da.1
      rw [List.length_cons] at dl
      refine ⟨r, evr_mem (by omega) fun y hy => ?_, ?_⟩
      · obtain ⟨j, hj, ej⟩ := List.mem_iff_getElem.mp hy
        have ey : (0 :: r : List Int).getD (j + 1) 0 = y := by rw [List.getD_cons_succ, gd hj, ej]
        obtain ⟨q1, m1, o1⟩ := In.osc HA.km da (j := j + 1) (k := 0) (by omega) (by omega)
        obtain ⟨q2, m2, o2⟩ := In.osc HA.km da (j := 0) (k := j + 1) (by omega) (by omega)
        rw [ey, List.getD_cons_zero] at o1 o2
        have := far_ge (B := B) (List.mem_append_left B m1)
        have := far_ge (B := B) (List.mem_append_left B m2)
        omega
      · rw [da.2, db.2, Bool.and_eq_true]
        exact ⟨beq_self_eq_true _, beq_self_eq_true _⟩
    | [], da, db, h0 => have := da.1; simp only [List.length_nil] at this; omega
end
end Wk24
set_option Elab.async false
set_option linter.all false
set_option maxRecDepth 100000
set_option maxHeartbeats 400000
namespace Wk24
open PySem PL
def Sq (p : PV) (xs : List PV) : Prop := p = .lst xs ∨ p = .tup xs
theorem S_is_row {p : PV} {xs : List PV} (h : Sq p xs) : F_is_row [.fz p] = some (.fz (.bl true), [.fz p]) := by
  rcases h with rfl | rfl <;> simp [F_is_row, fnF, prepP, finP, sNil, sSeq, sIf, sRet, sRetN, sExpr, sSet, sPar, sPar3, sAsg, sSetIx, sFor, gNm, gTp, gsNil, gsCons, eVar, ePk, eMv, eBor, eC, eBin, eNeg, eAndF, eOrF, eNotF, eIf, eChain, eTup, eLst, eNary, eCall, eMeth, eMake, eFld, eSl, oSome, oNone, aNil, aCons, tOf, tAndF, tOrF, tNotF, cont, conts, tmpOf, valOf, valsOf, toVl, Vl.sl, putB, iSeq, seqOf, iRange1, iRange2, iZip2, iZip3, iEnum, opAdd, opSub, opMul, opMod, opFdiv, opPow, opEq, opNe, opLt, opLe, opGt, opGe, opCmp, opIs, opIsNot, opIx, opSl, isNon, clLen, clAbs, clInt, clMax, clMin, clMax2, clMin2, clSum, clAll, clAny, clTuple, clList, clIsi, isTy, isAny, tyP, subTy, eAppend, eExtend, L2.atI, L2.ixN, datN_i, datN_n, datN_b, datN_l, datN_t, datNs_Ints, datNs_nil, eqP_ii, eqP_ll, eqP_tt, eqP_nn, eqP_bb, eqPs_Ints, eqPs_nn, eqPs_nc, eqPs_cn, lineN]
theorem S_is_integer (i : Int) : F_is_integer [.fz (.int i)] = some (.fz (.bl true), [.fz (.int i)]) := by
  simp [F_is_integer, fnF, prepP, finP, sNil, sSeq, sIf, sRet, sRetN, sExpr, sSet, sPar, sPar3, sAsg, sSetIx, sFor, gNm, gTp, gsNil, gsCons, eVar, ePk, eMv, eBor, eC, eBin, eNeg, eAndF, eOrF, eNotF, eIf, eChain, eTup, eLst, eNary, eCall, eMeth, eMake, eFld, eSl, oSome, oNone, aNil, aCons, tOf, tAndF, tOrF, tNotF, cont, conts, tmpOf, valOf, valsOf, toVl, Vl.sl, putB, iSeq, seqOf, iRange1, iRange2, iZip2, iZip3, iEnum, opAdd, opSub, opMul, opMod, opFdiv, opPow, opEq, opNe, opLt, opLe, opGt, opGe, opCmp, opIs, opIsNot, opIx, opSl, isNon, clLen, clAbs, clInt, clMax, clMin, clMax2, clMin2, clSum, clAll, clAny, clTuple, clList, clIsi, isTy, isAny, tyP, subTy, eAppend, eExtend, L2.atI, L2.ixN, datN_i, datN_n, datN_b, datN_l, datN_t, datNs_Ints, datNs_nil, eqP_ii, eqP_ll, eqP_tt, eqP_nn, eqP_bb, eqPs_Ints, eqPs_nn, eqPs_nc, eqPs_cn, lineN]
theorem blsOf_true {α : Type} : ∀ xs : List α, blsOf (xs.map fun _ => PV.bl true) = some (xs.map fun _ => true)
  | [] => rfl
  | x :: xs => by
    have := blsOf_true xs
    simp only [List.map_cons]
    unfold blsOf
    rw [this]; rfl
theorem all_true {α : Type} (xs : List α) : (xs.map fun _ => true).all id = true := by simp
theorem eqPs_In (a : List Int) : eqPs (Ints a) [] = a.isEmpty := by
  cases a with
  | nil => exact eqPs_nn
  | cons x a => exact eqPs_cn _ _
def Rws (rs : List (List Int)) : List PV := rs.map fun r => .lst (Ints r)
def Tps (rs : List (List Int)) : List PV := rs.map fun r => .tup (Ints r)
theorem Rws_len (rs : List (List Int)) : (Rws rs).length = rs.length := by unfold Rws; rw [List.length_map]
theorem Tps_len (rs : List (List Int)) : (Tps rs).length = rs.length := by unfold Tps; rw [List.length_map]
theorem ex_list {α : Type} {P : α → Prop} {f : α → PV} : ∀ {qs : List PV}, (∀ q ∈ qs, ∃ a, q = f a ∧ P a) → ∃ as : List α, qs = as.map f ∧ ∀ a ∈ as, P a
  | [], _ => ⟨[], rfl, fun a h => by simp at h⟩
  | q :: qs, h => by
    obtain ⟨a, rfl, ha⟩ := h q List.mem_cons_self
    obtain ⟨as, rfl, hs⟩ := ex_list fun q hq => h q (List.mem_cons_of_mem _ hq)
    refine ⟨a :: as, rfl, fun b hb => ?_⟩
    rcases List.mem_cons.mp hb with rfl | hb
    · exact ha
    · exact hs b hb
theorem mem_of {items qs : List PV} {P : PV → PV → Prop} {R : PV → Prop} (l : qs.length = items.length) (e : ∀ (j : Nat) (p q : PV), items[j]? = some p → qs[j]? = some q → P p q) (i : ∀ p q, P p q → R q) : ∀ q ∈ qs, R q := fun q hq => by
  obtain ⟨j, hj, rfl⟩ := List.getElem_of_mem hq
  exact i _ _ (e j _ _ (List.getElem?_eq_getElem (by omega)) (List.getElem?_eq_getElem hj))
variable {x0 x1 x2 x3 x4 x5 x6 x7 x8 x9 x10 x11 x12 x13 x14 x15 x16 x17 x18 : Sl}
theorem seq_nx {f g : PSF} {ρ ρ1 : List Sl} (h : f ρ = some (.nx, ρ1)) : sSeq f g ρ = g ρ1 := by
  unfold sSeq
  rw [h, Option.bind_some]
theorem zip_ints : ∀ {a b : List Int} {q : PV}, q ∈ zipP (Ints a) (Ints b) → ∃ x y : Int, q = .tup [.int x, .int y]
  | [], b, q, h => by simp [Ints_nil, zipP] at h
  | x :: a, [], q, h => by simp [Ints_nil, Ints_cons, zipP] at h
  | x :: a, y :: b, q, h => by
    rw [Ints_cons, Ints_cons, zipP] at h
    rcases List.mem_cons.mp h with rfl | h
    · exact ⟨x, y, rfl⟩
    · exact zip_ints h
theorem forP_all {g : PGF} {body : PSF} {I : List Sl → Prop} {v : Vl} (ok : PV → Bool) : ∀ (items : List PV) (ρ : List Sl), I ρ → (∀ p ∈ items, ∀ ρ, I ρ → ∃ ρ1 ρ2, g p ρ = some ρ1 ∧ I ρ2 ∧ body ρ1 = some (if ok p = true then .nx else .rt v, ρ2)) → ∃ ρ', I ρ' ∧ forP g body items ρ = some (if items.all ok = true then .nx else .rt v, ρ')
  | [], ρ, h, _ => ⟨ρ, h, rfl⟩
  | p :: ps, ρ, h, st => by
    obtain ⟨ρ1, ρ2, h1, h2, h3⟩ := st p List.mem_cons_self ρ h
    rw [forP, h1, Option.bind_some, h3, Option.bind_some, List.all_cons]
    cases hk : ok p with
    | true =>
      obtain ⟨ρ', h4, e⟩ := forP_all ok ps ρ2 h2 fun q hq => st q (List.mem_cons_of_mem _ hq)
      exact ⟨ρ', h4, e⟩
    | false => exact ⟨ρ2, h2, rfl⟩
theorem forP_find {g : PGF} {body : PSF} {I : List Sl → Prop} (tst : PV → Bool) : ∀ (items : List PV) (ρ : List Sl), I ρ → (∀ p ∈ items, ∀ ρ, I ρ → ∃ ρ1 ρ2, g p ρ = some ρ1 ∧ I ρ2 ∧ body ρ1 = some (if tst p = true then .rt (.fz p) else .nx, ρ2)) → ∃ ρ', I ρ' ∧ forP g body items ρ = some (match items.find? tst with | none => .nx | some p => .rt (.fz p), ρ')
  | [], ρ, h, _ => ⟨ρ, h, rfl⟩
  | p :: ps, ρ, h, st => by
    obtain ⟨ρ1, ρ2, h1, h2, h3⟩ := st p List.mem_cons_self ρ h
    rw [forP, h1, Option.bind_some, h3, Option.bind_some, List.find?_cons]
    cases hk : tst p with
    | false =>
      obtain ⟨ρ', h4, e⟩ := forP_find tst ps ρ2 h2 fun q hq => st q (List.mem_cons_of_mem _ hq)
      exact ⟨ρ', h4, e⟩
    | true => exact ⟨ρ2, h2, rfl⟩
theorem opMul_r {i j : Int} (h : -(2 ^ 64) < j ∧ j < 2 ^ 64) : opMul (.int i) (.int j) = some (.fz (.int (i * j))) := by
  show (if _ then _ else _) = _
  exact if_pos (mulOk_r h)
theorem S_are_integers {p : PV} {ns : List Int} {m : Int} (hp : Sq p (Ints ns)) (hm : (ns.length : Int) = m) : F_are_integers [.fz p, .fz (.int m)] = some (.fz (.bl true), [.fz p, .fz (.int m)]) := by
  have e : F_are_integers_l1 [.fz p, .fz (.int m), .un] = some (.own ((Ints ns).map fun _ => .bl true), [.fz p, .fz (.int m), .un]) := by
    refine eLc_map (items := Ints ns) (rs := [.fz p]) (fun _ => .bl true) (by rcases hp with rfl | rfl <;> (apply Eq.trans; apply PL.stISeq; apply Eq.trans; apply PL.stVar; rfl; rfl; rfl; rfl)) (by rfl) (by decide) (by simp) fun z hz => ?_
    obtain ⟨i, hi, rfl⟩ := Ints_mem hz
    have e := S_is_integer i
    refine ⟨[.fz (.int i)], .fz (.bl true), [.fz (.int i)], rfl, rfl, rfl, ?_, rfl⟩
    show eCall _ _ [.fz p, .fz (.int m), .fz (.int i)] = some (_, [.fz p, .fz (.int m), .fz (.int i)])
    (apply Eq.trans; apply PL.stCall; apply Eq.trans; apply PL.stCons; apply Eq.trans; apply PL.stVar; rfl; rfl; apply Eq.trans; apply PL.stNil; rfl; rfl; exact e; rfl)
  have e1 := S_is_row hp
  have e2 := blsOf_true (Ints ns)
  have e3 := all_true (Ints ns)
  have e4 := Ints_len ns
  have fin : F_are_integers [.fz p, .fz (.int m)] = some (.fz (.bl (((Ints ns).map fun _ => true).all id)), [.fz p, .fz (.int m)]) := by
    unfold F_are_integers
    rcases hp with rfl | rfl <;> (first | (apply Eq.trans; apply PL.stFn; apply Eq.trans; apply PL.stRet; apply Eq.trans; apply PL.stAndT; apply Eq.trans; apply PL.stCall; apply Eq.trans; apply PL.stCons; apply Eq.trans; apply PL.stVar; rfl; rfl; apply Eq.trans; apply PL.stNil; rfl; rfl; exact e1; rfl; exact rfl; apply Eq.trans; apply PL.stAndT; apply Eq.trans; apply PL.stBin; apply Eq.trans; apply PL.stNary; apply Eq.trans; apply PL.stCons; apply Eq.trans; apply PL.stPk; rfl; rfl; apply Eq.trans; apply PL.stNil; rfl; rfl; rfl; apply Eq.trans; apply PL.clLen_l; exact e4; rfl; rfl; apply Eq.trans; apply PL.stPk; rfl; rfl; rfl; rfl; apply Eq.trans; apply PL.opEq_ii; rfl; rfl; exact (decide_eq_true (by first | with_reducible assumption | rfl | omega | (simp only [*]; done))); apply Eq.trans; apply PL.stNary; apply Eq.trans; apply PL.stCons; exact e; apply Eq.trans; apply PL.stNil; rfl; rfl; rfl; apply Eq.trans; apply PL.clAll_l; exact e2; rfl; rfl; rfl; rfl; rfl; rfl; rfl) | (apply Eq.trans; apply PL.stFn; apply Eq.trans; apply PL.stRet; apply Eq.trans; apply PL.stAndT; apply Eq.trans; apply PL.stCall; apply Eq.trans; apply PL.stCons; apply Eq.trans; apply PL.stVar; rfl; rfl; apply Eq.trans; apply PL.stNil; rfl; rfl; exact e1; rfl; exact rfl; apply Eq.trans; apply PL.stAndT; apply Eq.trans; apply PL.stBin; apply Eq.trans; apply PL.stNary; apply Eq.trans; apply PL.stCons; apply Eq.trans; apply PL.stPk; rfl; rfl; apply Eq.trans; apply PL.stNil; rfl; rfl; rfl; apply Eq.trans; apply PL.clLen_t; exact e4; rfl; rfl; apply Eq.trans; apply PL.stPk; rfl; rfl; rfl; rfl; apply Eq.trans; apply PL.opEq_ii; rfl; rfl; exact (decide_eq_true (by first | with_reducible assumption | rfl | omega | (simp only [*]; done))); apply Eq.trans; apply PL.stNary; apply Eq.trans; apply PL.stCons; exact e; apply Eq.trans; apply PL.stNil; rfl; rfl; rfl; apply Eq.trans; apply PL.clAll_l; exact e2; rfl; rfl; rfl; rfl; rfl; rfl; rfl))
  rw [fin, e3]
def hI (f : Int → Int → Int) : PV → PV
  | .tup [.int a, .int b] => .int (f a b)
  | _ => .non
theorem zip_hI (f : Int → Int → Int) : ∀ (a b : List Int), (zipP (Ints a) (Ints b)).map (hI f) = Ints (List.zipWith f a b)
  | [], b => by simp [Ints_nil, zipP]
  | x :: a, [] => by simp [Ints_nil, Ints_cons, zipP]
  | x :: a, y :: b => by
    rw [Ints_cons, Ints_cons, zipP, List.map_cons, zip_hI f a b, List.zipWith_cons_cons, Ints_cons]; rfl
theorem atI_hd (a : PV) (xs : List PV) : L2.atI (a :: xs) 0 = some a := by
  unfold L2.atI L2.ixN
  simp
theorem atI_Tps {rs : List (List Int)} {i : Nat} (h : i < rs.length) : L2.atI (Tps rs) (i : Int) = some (.tup (Ints (rs.getD i []))) := by
  unfold L2.atI
  rw [ixN_nat (by rw [Tps_len]; exact h), Option.bind_some]
  unfold Tps
  rw [List.getElem?_map, List.getD_eq_getElem?_getD, List.getElem?_eq_getElem h]; rfl
theorem opMul_l {i j : Int} (h : -(2 ^ 64) < i ∧ i < 2 ^ 64) : opMul (.int i) (.int j) = some (.fz (.int (i * j))) := by
  show (if mulOk i j = true then _ else _) = _
  exact if_pos (mulOk_l h)
theorem opNe_bb (a b : Bool) : opNe (.bl a) (.bl b) = some (.fz (.bl (!(a == b)))) := by
  unfold opNe
  rw [datN_b, datN_b, if_pos ⟨rfl, rfl⟩, eqP_bb]
end Wk24
set_option Elab.async false
set_option linter.all false
set_option maxRecDepth 100000
set_option maxHeartbeats 4000000
namespace Wk24
open PySem PL
/-! the draws of the older laws -/
def oA : PSF := (sIf (tAndF (tOf (eBin opEq (eBin opIx (ePk 0) (eC (.int 2))) (eC (.int 0)))) (tOf (eBin opLt (eBin opIx (ePk 0) (eC (.int 1))) (eNary clLen (aCons (eBin opIx (ePk 0) (eC (.int 0))) aNil))))) (sSeq (sSet 2 (eBin opIx (eBin opIx (ePk 0) (eC (.int 0))) (eBin opIx (ePk 0) (eC (.int 1))))) (sSeq (sSetIx 0 (eBin opAdd (eBin opIx (ePk 0) (eC (.int 1))) (eC (.int 1))) (eC (.int 1))) (sSeq (sSetIx 0 (eBin opMod (eNary clInt (aCons (eBin opAdd (eBin opAdd (eBin opMul (eBin opIx (ePk 0) (eC (.int 3))) (eC (.int 69621))) (ePk 2)) (eC (.int 11))) aNil)) (eC (.int 2147483629))) (eC (.int 3))) (sIf (tOf (eBin opGe (ePk 2) (eBin opPow (eC (.int 10)) (eC (.int 18))))) (sSetIx 0 (eVar 2) (eC (.int 2))) sNil)))) sNil)
theorem o_abc : F__law_draw = fnF 5 [false, false] (sSeq oA (sSeq dB dC)) := rfl
theorem oA_no {cells : List Int} {i : Nat} {rest mix cnt lim : Int} (h : ¬ (rest = 0 ∧ i < cells.length)) : oA [hand cells i rest mix cnt, .fz (.int lim), .un, .un, .un] = some (.nx, [hand cells i rest mix cnt, .fz (.int lim), .un, .un, .un]) := by
  by_cases h1 : rest = 0
  · have h2 : ¬ i < cells.length := fun z => h ⟨h1, z⟩
    simp [oA, hand, Ints_len, Ints_get, fnF, prepP, finP, sNil, sSeq, sIf, sRet, sRetN, sExpr, sSet, sPar, sPar3, sAsg, sSetIx, sFor, gNm, gTp, gsNil, gsCons, eVar, ePk, eMv, eBor, eC, eBin, eNeg, eAndF, eOrF, eNotF, eIf, eChain, eTup, eLst, eNary, eCall, eMeth, eMake, eFld, eSl, oSome, oNone, aNil, aCons, tOf, tAndF, tOrF, tNotF, cont, conts, tmpOf, valOf, valsOf, toVl, Vl.sl, putB, iSeq, seqOf, iRange1, iRange2, iZip2, iZip3, iEnum, opAdd, opSub, opMul, opMod, opFdiv, opPow, opEq, opNe, opLt, opLe, opGt, opGe, opCmp, opIs, opIsNot, opIx, opSl, isNon, clLen, clAbs, clInt, clMax, clMin, clMax2, clMin2, clSum, clSum2, clAll, clAny, clTuple, clList, clIsi, isTy, isAny, tyP, subTy, eAppend, eExtend, L2.atI, L2.ixN, datN_i, datN_n, datN_b, datN_l, datN_t, datNs_Ints, datNs_nil, eqP_ii, eqP_ll, eqP_tt, eqP_nn, eqP_bb, eqPs_Ints, eqPs_nn, eqPs_nc, eqPs_cn, lineN, h1]
    omega
  · simp [oA, hand, Ints_len, Ints_get, fnF, prepP, finP, sNil, sSeq, sIf, sRet, sRetN, sExpr, sSet, sPar, sPar3, sAsg, sSetIx, sFor, gNm, gTp, gsNil, gsCons, eVar, ePk, eMv, eBor, eC, eBin, eNeg, eAndF, eOrF, eNotF, eIf, eChain, eTup, eLst, eNary, eCall, eMeth, eMake, eFld, eSl, oSome, oNone, aNil, aCons, tOf, tAndF, tOrF, tNotF, cont, conts, tmpOf, valOf, valsOf, toVl, Vl.sl, putB, iSeq, seqOf, iRange1, iRange2, iZip2, iZip3, iEnum, opAdd, opSub, opMul, opMod, opFdiv, opPow, opEq, opNe, opLt, opLe, opGt, opGe, opCmp, opIs, opIsNot, opIx, opSl, isNon, clLen, clAbs, clInt, clMax, clMin, clMax2, clMin2, clSum, clSum2, clAll, clAny, clTuple, clList, clIsi, isTy, isAny, tyP, subTy, eAppend, eExtend, L2.atI, L2.ixN, datN_i, datN_n, datN_b, datN_l, datN_t, datNs_Ints, datNs_nil, eqP_ii, eqP_ll, eqP_tt, eqP_nn, eqP_bb, eqPs_Ints, eqPs_nn, eqPs_nc, eqPs_cn, lineN, h1]
theorem oA_yes {cells : List Int} {i : Nat} {mix cnt lim c : Int} (h : cells[i]? = some c) : oA [hand cells i 0 mix cnt, .fz (.int lim), .un, .un, .un] = some (.nx, [hand cells (i + 1) (if 10 ^ 18 ≤ c then c else 0) ((mix * 69621 + c + 11) % 2147483629) cnt, .fz (.int lim), .fz (.int c), .un, .un]) := by
  obtain ⟨hi, rfl⟩ := List.getElem?_eq_some_iff.mp h
  have hm : mulOk mix 69621 = true := mulOk_r (by omega)
  have hn : (Ints cells).length = cells.length := by simp [Ints]
  by_cases hc : (1000000000000000000 : Int) ≤ cells[i]
  · simp [oA, hand, Ints_len, Ints_get, fnF, prepP, finP, sNil, sSeq, sIf, sRet, sRetN, sExpr, sSet, sPar, sPar3, sAsg, sSetIx, sFor, gNm, gTp, gsNil, gsCons, eVar, ePk, eMv, eBor, eC, eBin, eNeg, eAndF, eOrF, eNotF, eIf, eChain, eTup, eLst, eNary, eCall, eMeth, eMake, eFld, eSl, oSome, oNone, aNil, aCons, tOf, tAndF, tOrF, tNotF, cont, conts, tmpOf, valOf, valsOf, toVl, Vl.sl, putB, iSeq, seqOf, iRange1, iRange2, iZip2, iZip3, iEnum, opAdd, opSub, opMul, opMod, opFdiv, opPow, opEq, opNe, opLt, opLe, opGt, opGe, opCmp, opIs, opIsNot, opIx, opSl, isNon, clLen, clAbs, clInt, clMax, clMin, clMax2, clMin2, clSum, clSum2, clAll, clAny, clTuple, clList, clIsi, isTy, isAny, tyP, subTy, eAppend, eExtend, L2.atI, L2.ixN, datN_i, datN_n, datN_b, datN_l, datN_t, datNs_Ints, datNs_nil, eqP_ii, eqP_ll, eqP_tt, eqP_nn, eqP_bb, eqPs_Ints, eqPs_nn, eqPs_nc, eqPs_cn, lineN, hi, hm, hc]
  · simp [oA, hand, Ints_len, Ints_get, fnF, prepP, finP, sNil, sSeq, sIf, sRet, sRetN, sExpr, sSet, sPar, sPar3, sAsg, sSetIx, sFor, gNm, gTp, gsNil, gsCons, eVar, ePk, eMv, eBor, eC, eBin, eNeg, eAndF, eOrF, eNotF, eIf, eChain, eTup, eLst, eNary, eCall, eMeth, eMake, eFld, eSl, oSome, oNone, aNil, aCons, tOf, tAndF, tOrF, tNotF, cont, conts, tmpOf, valOf, valsOf, toVl, Vl.sl, putB, iSeq, seqOf, iRange1, iRange2, iZip2, iZip3, iEnum, opAdd, opSub, opMul, opMod, opFdiv, opPow, opEq, opNe, opLt, opLe, opGt, opGe, opCmp, opIs, opIsNot, opIx, opSl, isNon, clLen, clAbs, clInt, clMax, clMin, clMax2, clMin2, clSum, clSum2, clAll, clAny, clTuple, clList, clIsi, isTy, isAny, tyP, subTy, eAppend, eExtend, L2.atI, L2.ixN, datN_i, datN_n, datN_b, datN_l, datN_t, datNs_Ints, datNs_nil, eqP_ii, eqP_ll, eqP_tt, eqP_nn, eqP_bb, eqPs_Ints, eqPs_nn, eqPs_nc, eqPs_cn, lineN, hi, hm, hc]
theorem odraw {s : Sl} {lim : Int} (h : Hd s) (hl : 0 < lim ∧ lim < 2 ^ 64) : ∃ r s', F__law_draw [s, .fz (.int lim)] = some (.fz (.int r), [s', .fz (.int lim)]) ∧ 0 ≤ r ∧ r < lim ∧ Hd s' := by
  obtain ⟨cells, i, rest, mix, cnt, rfl, hi, hr, hc⟩ := h
  obtain ⟨i', rest', mix', a, e1, hi', hr'⟩ : ∃ (i' : Nat) (rest' mix' : Int) (a : Sl), oA [hand cells i rest mix cnt, .fz (.int lim), .un, .un, .un] = some (.nx, [hand cells i' rest' mix' cnt, .fz (.int lim), a, .un, .un]) ∧ i' ≤ cells.length ∧ 0 ≤ rest' := by
    by_cases h1 : rest = 0 ∧ i < cells.length
    · obtain ⟨rfl, h2⟩ := h1
      have e := oA_yes (mix := mix) (cnt := cnt) (lim := lim) (List.getElem?_eq_getElem h2)
      refine ⟨i + 1, _, _, _, by rw [show ((i + 1 : Nat) : Int) = (i : Int) + 1 by omega]; exact e, h2, ?_⟩
      split
      · exact hc _ (List.getElem_mem h2)
      · omega
    · exact ⟨i, rest, mix, .un, oA_no h1, hi, hr⟩
  rw [o_abc]
  by_cases h2 : 0 < rest'
  · have e2 := dB_yes (cells := cells) (i := i') (mix := mix') (cnt := cnt) (a := a) (b := .un) (c := .un) h2 hl
    refine ⟨rest' % lim, hand cells i' (rest' / lim) mix' cnt, ?_, Int.emod_nonneg _ (by omega), Int.emod_lt_of_pos _ (by omega), cells, i', _, _, _, rfl, hi', Int.ediv_nonneg hr' (by omega), hc⟩
    simp [fnF, prepP, sSeq, e1, e2, finP]
  · have h3 : rest' = 0 := by omega
    subst h3
    obtain ⟨r, x, e3, h4, h5⟩ := dC_of (cells := cells) (i := i') (mix := mix') (cnt := cnt) (a := a) (b := .un) (c := .un) hl
    refine ⟨r, hand cells i' 0 mix' (cnt + 1), ?_, h4, h5, cells, i', _, _, _, rfl, hi', Int.le_refl _, hc⟩
    simp [fnF, prepP, sSeq, e1, dB_no, e3, finP]
theorem ocall {ρ : List Sl} {i : Nat} {s : Sl} {lim : Int} (h : Hd s) (g : ρ[i]? = some s) (hl : 0 < lim ∧ lim < 2 ^ 64) : ∃ r s', eCall F__law_draw (aCons (eBor i) (aCons (eC (.int lim)) aNil)) ρ = some (.fz (.int r), ρ.set i s') ∧ 0 ≤ r ∧ r < lim ∧ Hd s' := by
  obtain ⟨r, s', e, h1, h2, h3⟩ := odraw h hl
  obtain ⟨xs, rfl⟩ := h.own
  refine ⟨r, s', ?_, h1, h2, h3⟩
  simp [eCall, aCons, aNil, eBor, eC, g, tmpOf, e, putB, Vl.sl]
theorem ohand (ns : List Int) : ∃ v, F__law_hand [.fz (.scr (Ints ns))] = some (v, [.fz (.scr (Ints ns))]) ∧ Hd v.sl := by
  have e : F__law_hand_l1 [.fz (.scr (Ints ns)), .un, .un] = some (.own ((Ints (cutP ns none (some 63))).map fun p => match p with | .int i => .int (absI i) | _ => .non), [.fz (.scr (Ints ns)), .un, .un]) := by
    refine eLc_map (items := Ints (cutP ns none (some 63))) (rs := [.own (Ints (cutP ns none (some 63)))]) _ (by simp [fnF, prepP, finP, sNil, sSeq, sIf, sRet, sRetN, sExpr, sSet, sPar, sPar3, sAsg, sSetIx, sFor, gNm, gTp, gsNil, gsCons, eVar, ePk, eMv, eBor, eC, eBin, eNeg, eAndF, eOrF, eNotF, eIf, eChain, eTup, eLst, eNary, eCall, eMeth, eMake, eFld, eSl, oSome, oNone, aNil, aCons, tOf, tAndF, tOrF, tNotF, cont, conts, tmpOf, valOf, valsOf, toVl, Vl.sl, putB, iSeq, seqOf, iRange1, iRange2, iZip2, iZip3, iEnum, opAdd, opSub, opMul, opMod, opFdiv, opPow, opEq, opNe, opLt, opLe, opGt, opGe, opCmp, opIs, opIsNot, opIx, opSl, isNon, clLen, clAbs, clInt, clMax, clMin, clMax2, clMin2, clSum, clSum2, clAll, clAny, clTuple, clList, clIsi, isTy, isAny, tyP, subTy, eAppend, eExtend, L2.atI, L2.ixN, datN_i, datN_n, datN_b, datN_l, datN_t, datNs_Ints, datNs_nil, eqP_ii, eqP_ll, eqP_tt, eqP_nn, eqP_bb, eqPs_Ints, eqPs_nn, eqPs_nc, eqPs_cn, lineN, cutP_Ints]) (by simp [fnF, prepP, finP, sNil, sSeq, sIf, sRet, sRetN, sExpr, sSet, sPar, sPar3, sAsg, sSetIx, sFor, gNm, gTp, gsNil, gsCons, eVar, ePk, eMv, eBor, eC, eBin, eNeg, eAndF, eOrF, eNotF, eIf, eChain, eTup, eLst, eNary, eCall, eMeth, eMake, eFld, eSl, oSome, oNone, aNil, aCons, tOf, tAndF, tOrF, tNotF, cont, conts, tmpOf, valOf, valsOf, toVl, Vl.sl, putB, iSeq, seqOf, iRange1, iRange2, iZip2, iZip3, iEnum, opAdd, opSub, opMul, opMod, opFdiv, opPow, opEq, opNe, opLt, opLe, opGt, opGe, opCmp, opIs, opIsNot, opIx, opSl, isNon, clLen, clAbs, clInt, clMax, clMin, clMax2, clMin2, clSum, clSum2, clAll, clAny, clTuple, clList, clIsi, isTy, isAny, tyP, subTy, eAppend, eExtend, L2.atI, L2.ixN, datN_i, datN_n, datN_b, datN_l, datN_t, datNs_Ints, datNs_nil, eqP_ii, eqP_ll, eqP_tt, eqP_nn, eqP_bb, eqPs_Ints, eqPs_nn, eqPs_nc, eqPs_cn, lineN]) (by decide) (by simp) fun q hq => ?_
    obtain ⟨c, hc, rfl⟩ := Ints_mem hq
    refine ⟨[.fz (.int c)], .fz (.int (absI c)), [.fz (.int c)], ?_⟩
    simp [fnF, prepP, finP, sNil, sSeq, sIf, sRet, sRetN, sExpr, sSet, sPar, sPar3, sAsg, sSetIx, sFor, gNm, gTp, gsNil, gsCons, eVar, ePk, eMv, eBor, eC, eBin, eNeg, eAndF, eOrF, eNotF, eIf, eChain, eTup, eLst, eNary, eCall, eMeth, eMake, eFld, eSl, oSome, oNone, aNil, aCons, tOf, tAndF, tOrF, tNotF, cont, conts, tmpOf, valOf, valsOf, toVl, Vl.sl, putB, iSeq, seqOf, iRange1, iRange2, iZip2, iZip3, iEnum, opAdd, opSub, opMul, opMod, opFdiv, opPow, opEq, opNe, opLt, opLe, opGt, opGe, opCmp, opIs, opIsNot, opIx, opSl, isNon, clLen, clAbs, clInt, clMax, clMin, clMax2, clMin2, clSum, clSum2, clAll, clAny, clTuple, clList, clIsi, isTy, isAny, tyP, subTy, eAppend, eExtend, L2.atI, L2.ixN, datN_i, datN_n, datN_b, datN_l, datN_t, datNs_Ints, datNs_nil, eqP_ii, eqP_ll, eqP_tt, eqP_nn, eqP_bb, eqPs_Ints, eqPs_nn, eqPs_nc, eqPs_cn, lineN, wipeS, backS, absI]
    split <;> omega
  have e2 : ((Ints (cutP ns none (some 63))).map fun p => match p with | .int i => .int (absI i) | _ => .non) = Ints ((cutP ns none (some 63)).map absI) := by
    unfold Ints
    rw [List.map_map, List.map_map]
    rfl
  rw [e2] at e
  have hp : ∀ c ∈ (cutP ns none (some 63)).map absI, 0 ≤ c := fun c hc => by
    obtain ⟨d, _, rfl⟩ := List.mem_map.mp hc
    unfold absI
    omega
  generalize (cutP ns none (some 63)).map absI = cs at e hp
  refine ⟨.own [.lst (Ints cs), .int 0, .int 0, .int (1 + cs.length), .int 0], ?_, ?_⟩
  · simp [F__law_hand, fnF, prepP, finP, sNil, sSeq, sIf, sRet, sRetN, sExpr, sSet, sPar, sPar3, sAsg, sSetIx, sFor, gNm, gTp, gsNil, gsCons, eVar, ePk, eMv, eBor, eC, eBin, eNeg, eAndF, eOrF, eNotF, eIf, eChain, eTup, eLst, eNary, eCall, eMeth, eMake, eFld, eSl, oSome, oNone, aNil, aCons, tOf, tAndF, tOrF, tNotF, cont, conts, tmpOf, valOf, valsOf, toVl, Vl.sl, putB, iSeq, seqOf, iRange1, iRange2, iZip2, iZip3, iEnum, opAdd, opSub, opMul, opMod, opFdiv, opPow, opEq, opNe, opLt, opLe, opGt, opGe, opCmp, opIs, opIsNot, opIx, opSl, isNon, clLen, clAbs, clInt, clMax, clMin, clMax2, clMin2, clSum, clSum2, clAll, clAny, clTuple, clList, clIsi, isTy, isAny, tyP, subTy, eAppend, eExtend, L2.atI, L2.ixN, datN_i, datN_n, datN_b, datN_l, datN_t, datNs_Ints, datNs_nil, eqP_ii, eqP_ll, eqP_tt, eqP_nn, eqP_bb, eqPs_Ints, eqPs_nn, eqPs_nc, eqPs_cn, lineN, e, Ints_len]
  · exact ⟨cs, 0, 0, _, 0, rfl, Nat.zero_le _, Int.le_refl _, hp⟩
end Wk24
set_option Elab.async false
set_option linter.all false
set_option maxRecDepth 100000
set_option maxHeartbeats 1000000
namespace Wk24
open PySem PL
section
variable {A B : List (List Int)} {w : Nat}
theorem Mk.hd (H : Mk A w) : A.getD 0 [] ∈ A := by
  have := H.n1
  rw [List.getD_eq_getElem?_getD, List.getElem?_eq_getElem (by omega)]
  exact List.getElem_mem _
theorem Mk.at0 (H : Mk A w) : L2.atI (Tps A) 0 = some (.tup (Ints (A.getD 0 []))) := atI_Tps (i := 0) (by have := H.n1; omega)
theorem Mk.l0 (H : Mk A w) : (Ints (A.getD 0 [])).length = w := by rw [Ints_len]; exact H.ln _ H.hd
theorem Tps_mem {p : PV} (h : p ∈ Tps A) : ∃ r, r ∈ A ∧ p = .tup (Ints r) := by
  obtain ⟨r, hr, e⟩ := List.mem_map.mp h
  exact ⟨r, hr, e.symm⟩
theorem L_cm (q : Sl) (r : List Int) (x2 : Sl) : F_check_makers_l1 [q, .fz (.tup (Ints r)), x2] = some (.own ((Ints r).map fun _ => .bl true), [q, .fz (.tup (Ints r)), x2]) := by
  refine eLc_map (items := Ints r) (rs := [.fz (.tup (Ints r))]) (fun _ => .bl true) (by (apply Eq.trans; apply PL.stISeq; apply Eq.trans; apply PL.stVar; rfl; rfl; rfl; rfl)) (by rfl) (by decide) (by simp) fun z hz => ?_
  obtain ⟨i, hi, rfl⟩ := Ints_mem hz
  have e := S_is_integer i
  refine ⟨[.fz (.int i)], .fz (.bl true), [.fz (.int i)], rfl, rfl, rfl, ?_, rfl⟩
  show eCall _ _ [q, .fz (.tup (Ints r)), .fz (.int i)] = some (_, [q, .fz (.tup (Ints r)), .fz (.int i)])
  (apply Eq.trans; apply PL.stCall; apply Eq.trans; apply PL.stCons; apply Eq.trans; apply PL.stVar; rfl; rfl; apply Eq.trans; apply PL.stNil; rfl; rfl; exact e; rfl)
theorem S_check_makers (H : Mk A w) (h8 : A.length ≤ 8) (w8 : w ≤ 8) : F_check_makers [.fz (.tup (Tps A))] = some (.fz .non, [.fz (.tup (Tps A))]) := by
  have w1 := H.w1
  have n1 := H.n1
  have e0 := H.at0
  have e1 := H.l0
  have eT := Tps_len A
  obtain ⟨ρ', e, y1, y2, hρ⟩ := forP_ex (g := gNm 1) (body := F_check_makers_b1) (I := fun ρ _ => ∃ y1 y2, ρ = [.fz (.tup (Tps A)), y1, y2]) (Tps A) 0 [.fz (.tup (Tps A)), .un, .un] ⟨_, _, rfl⟩ fun j p ρ hj ⟨y1, y2, hρ⟩ => by
    subst hρ
    obtain ⟨r, hr, rfl⟩ := Tps_mem (List.mem_of_getElem? hj)
    have e2 : (Ints r).length = w := by rw [Ints_len]; exact H.ln r hr
    have e3 := S_is_row (p := .tup (Ints r)) (.inr rfl)
    have e4 := L_cm (.fz (.tup (Tps A))) r y2
    have e5 := blsOf_true (Ints r)
    have e6 := all_true (Ints r)
    refine ⟨_, [.fz (.tup (Tps A)), .fz (.tup (Ints r)), y2], rfl, .inl ?_, _, _, rfl⟩
    show F_check_makers_b1 [.fz (.tup (Tps A)), .fz (.tup (Ints r)), y2] = _
    unfold F_check_makers_b1
    (apply PL.stSeqN; apply Eq.trans; apply PL.stIfN; apply Eq.trans; apply PL.stTOrN; apply Eq.trans; apply PL.stNot; apply Eq.trans; apply PL.stOf; apply Eq.trans; apply PL.stCall; apply Eq.trans; apply PL.stCons; apply Eq.trans; apply PL.stVar; rfl; rfl; apply Eq.trans; apply PL.stNil; rfl; rfl; exact e3; rfl; rfl; rfl; exact (PL.not_f rfl); apply Eq.trans; apply PL.stTOrN; apply Eq.trans; apply PL.stNot; apply Eq.trans; apply PL.stOf; apply Eq.trans; apply PL.stChainT; apply Eq.trans; apply PL.stC; rfl; apply Eq.trans; apply PL.stNary; apply Eq.trans; apply PL.stCons; apply Eq.trans; apply PL.stPk; rfl; rfl; apply Eq.trans; apply PL.stNil; rfl; rfl; rfl; apply Eq.trans; apply PL.clLen_t; exact e2; rfl; rfl; rfl; rfl; rfl; exact (decide_eq_true (by first | with_reducible assumption | rfl | omega | (simp only [*]; done))); apply Eq.trans; apply PL.stC; rfl; rfl; rfl; rfl; rfl; rfl; rfl; exact (PL.not_f (decide_eq_true (by first | with_reducible assumption | rfl | omega | (simp only [*]; done)))); apply Eq.trans; apply PL.stOf; apply Eq.trans; apply PL.stBin; apply Eq.trans; apply PL.stNary; apply Eq.trans; apply PL.stCons; apply Eq.trans; apply PL.stPk; rfl; rfl; apply Eq.trans; apply PL.stNil; rfl; rfl; rfl; apply Eq.trans; apply PL.clLen_t; exact e2; rfl; rfl; apply Eq.trans; apply PL.stNary; apply Eq.trans; apply PL.stCons; apply Eq.trans; apply PL.stBin; apply Eq.trans; apply PL.stPk; rfl; rfl; apply Eq.trans; apply PL.stC; rfl; rfl; rfl; apply Eq.trans; apply PL.opIx_t; exact e0; rfl; rfl; apply Eq.trans; apply PL.stNil; rfl; rfl; rfl; apply Eq.trans; apply PL.clLen_t; exact e1; rfl; rfl; rfl; rfl; apply Eq.trans; apply PL.opNe_ii; rfl; rfl; rfl; rfl; rfl; exact (PL.not_f (decide_eq_true (by first | with_reducible assumption | rfl | omega | (simp only [*]; done)))); apply Eq.trans; apply PL.stNilS; rfl; rfl; apply Eq.trans; apply PL.stIfN; apply Eq.trans; apply PL.stNot; apply Eq.trans; apply PL.stOf; apply Eq.trans; apply PL.stNary; apply Eq.trans; apply PL.stCons; exact e4; apply Eq.trans; apply PL.stNil; rfl; rfl; rfl; apply Eq.trans; apply PL.clAll_l; exact e5; rfl; rfl; rfl; rfl; exact (PL.not_f (by with_reducible assumption)); apply Eq.trans; apply PL.stNilS; rfl; rfl)
  subst hρ
  have e2 : F_check_makers_f1 [.fz (.tup (Tps A)), .un, .un] = some (.nx, [.fz (.tup (Tps A)), y1, y2]) := by
    unfold F_check_makers_f1
    (apply Eq.trans; apply PL.stFor; apply Eq.trans; apply PL.stISeq; apply Eq.trans; apply PL.stVar; rfl; rfl; rfl; rfl; exact e; rfl)
  have e3 := S_is_row (p := .tup (Tps A)) (.inr rfl)
  clear e
  unfold F_check_makers
  (apply Eq.trans; apply PL.stFnN; apply PL.stSeqN; apply Eq.trans; apply PL.stIfN; apply Eq.trans; apply PL.stTOrN; apply Eq.trans; apply PL.stNot; apply Eq.trans; apply PL.stOf; apply Eq.trans; apply PL.stCall; apply Eq.trans; apply PL.stCons; apply Eq.trans; apply PL.stVar; rfl; rfl; apply Eq.trans; apply PL.stNil; rfl; rfl; exact e3; rfl; rfl; rfl; exact (PL.not_f rfl); apply Eq.trans; apply PL.stNot; apply Eq.trans; apply PL.stOf; apply Eq.trans; apply PL.stChainT; apply Eq.trans; apply PL.stC; rfl; apply Eq.trans; apply PL.stNary; apply Eq.trans; apply PL.stCons; apply Eq.trans; apply PL.stPk; rfl; rfl; apply Eq.trans; apply PL.stNil; rfl; rfl; rfl; apply Eq.trans; apply PL.clLen_t; exact eT; rfl; rfl; rfl; rfl; rfl; exact (decide_eq_true (by first | with_reducible assumption | rfl | omega | (simp only [*]; done))); apply Eq.trans; apply PL.stC; rfl; rfl; rfl; rfl; rfl; rfl; rfl; rfl; exact (PL.not_f (decide_eq_true (by first | with_reducible assumption | rfl | omega | (simp only [*]; done)))); apply Eq.trans; apply PL.stNilS; rfl; rfl; exact e2; rfl)
theorem S_check_like (H : Mk A w) (h8 : A.length ≤ 8) (w8 : w ≤ 8) {row : List Int} (hl : row.length = w) : F_check_like [.fz (.tup (Tps A)), .fz (.tup (Ints row))] = some (.fz .non, [.fz (.tup (Tps A)), .fz (.tup (Ints row))]) := by
  have e1 := S_check_makers H h8 w8
  have e2 := S_are_integers (p := .tup (Ints row)) (m := (w : Nat)) (.inr rfl) (by rw [hl])
  have e0 := H.at0
  have e3 := H.l0
  unfold F_check_like
  (apply Eq.trans; apply PL.stFnN; apply PL.stSeqN; apply Eq.trans; apply PL.stExpr; apply Eq.trans; apply PL.stCall; apply Eq.trans; apply PL.stCons; apply Eq.trans; apply PL.stVar; rfl; rfl; apply Eq.trans; apply PL.stNil; rfl; rfl; exact e1; rfl; rfl; apply Eq.trans; apply PL.stIfN; apply Eq.trans; apply PL.stNot; apply Eq.trans; apply PL.stOf; apply Eq.trans; apply PL.stCall; apply Eq.trans; apply PL.stCons; apply Eq.trans; apply PL.stVar; rfl; rfl; apply Eq.trans; apply PL.stCons; apply Eq.trans; apply PL.stNary; apply Eq.trans; apply PL.stCons; apply Eq.trans; apply PL.stBin; apply Eq.trans; apply PL.stPk; rfl; rfl; apply Eq.trans; apply PL.stC; rfl; rfl; rfl; apply Eq.trans; apply PL.opIx_t; exact e0; rfl; rfl; apply Eq.trans; apply PL.stNil; rfl; rfl; rfl; apply Eq.trans; apply PL.clLen_t; exact e3; rfl; rfl; apply Eq.trans; apply PL.stNil; rfl; rfl; rfl; exact e2; rfl; rfl; rfl; exact (PL.not_f rfl); apply Eq.trans; apply PL.stNilS; rfl; rfl; rfl)
theorem L_gs (q : Sl) (r row : List Int) (x3 x4 : Sl) : F_greatest_shifts_l1 [q, .fz (.tup (Ints row)), .fz (.tup (Ints r)), x3, x4] = some (.own (Ints (List.zipWith (fun a b => b - a) r row)), [q, .fz (.tup (Ints row)), .fz (.tup (Ints r)), x3, x4]) := by
  rw [← zip_hI]
  refine eLc_map (items := zipP (Ints r) (Ints row)) (rs := [.fz (.tup (Ints r)), .fz (.tup (Ints row))]) (hI fun a b => b - a) (by (apply Eq.trans; apply PL.stZip2; apply Eq.trans; apply PL.stCons; apply Eq.trans; apply PL.stVar; rfl; rfl; apply Eq.trans; apply PL.stCons; apply Eq.trans; apply PL.stVar; rfl; rfl; apply Eq.trans; apply PL.stNil; rfl; rfl; rfl; rfl; rfl; rfl)) (by rfl) (by decide) (by simp) fun z hz => ?_
  obtain ⟨x, y, rfl⟩ := zip_ints hz
  refine ⟨[.fz (.int x), .fz (.int y)], .fz (.int (y - x)), [.fz (.int x), .fz (.int y)], rfl, rfl, rfl, ?_, rfl⟩
  show eBin _ _ _ [q, .fz (.tup (Ints row)), .fz (.tup (Ints r)), .fz (.int x), .fz (.int y)] = some (_, [q, .fz (.tup (Ints row)), .fz (.tup (Ints r)), .fz (.int x), .fz (.int y)])
  (apply Eq.trans; apply PL.stBin; apply Eq.trans; apply PL.stPk; rfl; rfl; apply Eq.trans; apply PL.stPk; rfl; rfl; rfl; rfl; rfl; rfl)
theorem zwne {r row : List Int} (f : Int → Int → Int) (h1 : r.length = w) (h2 : row.length = w) (hw : 1 ≤ w) : List.zipWith f r row ≠ [] := fun z => by
  have := congrArg List.length z
  rw [List.length_zipWith] at this
  simp only [List.length_nil] at this
  omega
def shs (A : List (List Int)) (row : List Int) : List Int := A.map fun r => sh r row
def unI : PV → List Int
  | .tup xs => (intsOf xs).getD []
  | _ => []
theorem unI_t (r : List Int) : unI (.tup (Ints r)) = r := by
  show (intsOf (Ints r)).getD [] = r
  rw [intsOf_Ints]; rfl
def hSh (row : List Int) (p : PV) : PV := .int (sh (unI p) row)
theorem map_hSh (row : List Int) : (Tps A).map (hSh row) = Ints (shs A row) := by
  unfold Tps shs Ints
  rw [List.map_map, List.map_map]
  refine List.map_congr_left fun r _ => ?_
  show PV.int (sh (unI (.tup (Ints r))) row) = .int (sh r row)
  rw [unI_t]
theorem S_greatest_shifts (H : Mk A w) (h8 : A.length ≤ 8) (w8 : w ≤ 8) {row : List Int} (hl : row.length = w) : F_greatest_shifts [.fz (.tup (Tps A)), .fz (.tup (Ints row))] = some (.fz (.tup (Ints (shs A row))), [.fz (.tup (Tps A)), .fz (.tup (Ints row))]) := by
  have e1 := S_check_like H h8 w8 hl
  have e2 : F_greatest_shifts_l2 [.fz (.tup (Tps A)), .fz (.tup (Ints row)), .un, .un, .un] = some (.own (Ints (shs A row)), [.fz (.tup (Tps A)), .fz (.tup (Ints row)), .un, .un, .un]) := by
    rw [← map_hSh]
    refine eLc_map (items := Tps A) (rs := [.fz (.tup (Tps A))]) (hSh row) (by (apply Eq.trans; apply PL.stISeq; apply Eq.trans; apply PL.stVar; rfl; rfl; rfl; rfl)) (by rfl) (by decide) (by simp) fun z hz => ?_
    obtain ⟨r, hr, rfl⟩ := Tps_mem hz
    have f1 := L_gs (.fz (.tup (Tps A))) r row .un .un
    have f2 := intsOf_Ints (List.zipWith (fun a b => b - a) r row)
    have f3 := zwne (fun a b => b - a) (H.ln r hr) hl H.w1
    refine ⟨[.fz (.tup (Ints r))], .fz (.int (sh r row)), [.fz (.tup (Ints r))], rfl, rfl, rfl, ?_, ?_⟩
    · show eNary _ _ [.fz (.tup (Tps A)), .fz (.tup (Ints row)), .fz (.tup (Ints r)), .un, .un] = some (_, [.fz (.tup (Tps A)), .fz (.tup (Ints row)), .fz (.tup (Ints r)), .un, .un])
      unfold sh
      (apply Eq.trans; apply PL.stNary; apply Eq.trans; apply PL.stCons; exact f1; apply Eq.trans; apply PL.stNil; rfl; rfl; rfl; apply Eq.trans; apply PL.clMin2_l; exact f2; (first | assumption | decide | omega | simp [PL.lineN]); rfl; rfl)
    · show some (PV.int (sh r row)) = some (PV.int (sh (unI (.tup (Ints r))) row))
      rw [unI_t]
  unfold F_greatest_shifts
  (apply Eq.trans; apply PL.stFn; apply PL.stSeqN; apply Eq.trans; apply PL.stExpr; apply Eq.trans; apply PL.stCall; apply Eq.trans; apply PL.stCons; apply Eq.trans; apply PL.stVar; rfl; rfl; apply Eq.trans; apply PL.stCons; apply Eq.trans; apply PL.stVar; rfl; rfl; apply Eq.trans; apply PL.stNil; rfl; rfl; rfl; exact e1; rfl; rfl; apply Eq.trans; apply PL.stRet; apply Eq.trans; apply PL.stNary; apply Eq.trans; apply PL.stCons; exact e2; apply Eq.trans; apply PL.stNil; rfl; rfl; rfl; rfl; rfl; rfl; rfl; rfl)
end
end Wk24
set_option Elab.async false
set_option linter.all false
set_option maxRecDepth 100000
set_option maxHeartbeats 1000000
namespace Wk24
open PySem PL
section
variable {A B : List (List Int)} {w : Nat}
def mdj (A : List (List Int)) (ss : List Int) (j : Nat) : List Int := List.zipWith (fun (r : List Int) s => r.getD j 0 + s) A ss
def md (A : List (List Int)) (ss : List Int) (w : Nat) : List Int := (List.range w).map fun j => maxL (mdj A ss j)
theorem md_len (A : List (List Int)) (ss : List Int) (w : Nat) : (md A ss w).length = w := by unfold md; simp
theorem nea_md (A : List (List Int)) (w : Nat) (row : List Int) : nea A w row = md A (shs A row) w := by
  unfold nea md
  refine List.map_congr_left fun j _ => ?_
  congr 1
  unfold mdj shs
  induction A with
  | nil => rfl
  | cons r A ih => rw [List.map_cons, List.map_cons, List.zipWith_cons_cons, ← ih]
theorem mdj_ne {ss : List Int} (H : Mk A w) (hl : ss.length = A.length) (j : Nat) : mdj A ss j ≠ [] := fun z => by
  have := congrArg List.length z
  unfold mdj at this
  rw [List.length_zipWith] at this
  have := H.n1
  simp only [List.length_nil] at *
  omega
def hMd (j : Nat) : PV → PV
  | .tup [x, .int s] => .int ((unI x).getD j 0 + s)
  | _ => .non
theorem zip_hMd (j : Nat) : ∀ (A : List (List Int)) (ss : List Int), (zipP (Tps A) (Ints ss)).map (hMd j) = Ints (mdj A ss j)
  | [], ss => by unfold mdj; simp [Tps, zipP, Ints_nil]
  | r :: A, [] => by unfold mdj; simp [Tps, zipP, Ints_nil]
  | r :: A, s :: ss => by
    have ih := zip_hMd j A ss
    unfold mdj at ih ⊢
    show hMd j (.tup [.tup (Ints r), .int s]) :: (zipP (Tps A) (Ints ss)).map (hMd j) = _
    rw [ih, List.zipWith_cons_cons, Ints_cons]
    show PV.int ((unI (.tup (Ints r))).getD j 0 + s) :: _ = _
    rw [unI_t]
theorem zipTI_mem : ∀ {A : List (List Int)} {ss : List Int} {z : PV}, z ∈ zipP (Tps A) (Ints ss) → ∃ r s, r ∈ A ∧ z = .tup [.tup (Ints r), .int s]
  | [], ss, z, h => by simp [Tps, zipP] at h
  | r :: A, [], z, h => by simp [Tps, zipP, Ints_nil] at h
  | r :: A, s :: ss, z, h => by
    have h' : z ∈ (.tup [.tup (Ints r), .int s]) :: zipP (Tps A) (Ints ss) := h
    rcases List.mem_cons.mp h' with e | e
    · exact ⟨r, s, List.mem_cons_self, e⟩
    · obtain ⟨r', s', a, b⟩ := zipTI_mem e
      exact ⟨r', s', List.mem_cons_of_mem _ a, b⟩
theorem atI_I {r : List Int} {j : Nat} (h : j < r.length) : L2.atI (Ints r) (j : Int) = some (.int (r.getD j 0)) := by
  unfold L2.atI
  rw [Ints_len, ixN_nat h, Option.bind_some, Ints_get, gd h, List.getElem?_eq_getElem h]; rfl
theorem L_md1 (H : Mk A w) {ss : List Int} {j : Nat} (hj : j < w) {q2 q3 s2 : Sl} (h2 : s2 = .own (zipP (Tps A) (Ints ss)) ∨ s2 = .fz (.lst (zipP (Tps A) (Ints ss)))) (x4 x5 : Sl) :
    F_made_l1 [q2, q3, s2, .fz (.int (j : Nat)), x4, x5] = some (.own (Ints (mdj A ss j)), [q2, q3, .fz (.lst (zipP (Tps A) (Ints ss))), .fz (.int (j : Nat)), x4, x5]) := by
  rw [← zip_hMd]
  refine eLc_map (items := zipP (Tps A) (Ints ss)) (rs := [.fz (.lst (zipP (Tps A) (Ints ss)))]) (ρ0 := [q2, q3, .fz (.lst (zipP (Tps A) (Ints ss))), .fz (.int (j : Nat)), x4, x5]) (hMd j) (by rcases h2 with rfl | rfl <;> rfl) (by rfl) (by decide) (by simp) fun z hz => ?_
  obtain ⟨r, s, hr, rfl⟩ := zipTI_mem hz
  have e1 := atI_I (r := r) (j := j) (by rw [H.ln r hr]; exact hj)
  refine ⟨[.fz (.tup (Ints r)), .fz (.int s)], .fz (.int (r.getD j 0 + s)), [.fz (.tup (Ints r)), .fz (.int s)], rfl, rfl, rfl, ?_, ?_⟩
  · show eBin _ _ _ [q2, q3, .fz (.lst (zipP (Tps A) (Ints ss))), .fz (.int (j : Nat)), .fz (.tup (Ints r)), .fz (.int s)] = some (_, [q2, q3, .fz (.lst (zipP (Tps A) (Ints ss))), .fz (.int (j : Nat)), .fz (.tup (Ints r)), .fz (.int s)])
    (apply Eq.trans; apply PL.stBin; apply Eq.trans; apply PL.stBin; apply Eq.trans; apply PL.stPk; rfl; rfl; apply Eq.trans; apply PL.stPk; rfl; rfl; rfl; rfl; apply Eq.trans; apply PL.opIx_t; exact e1; rfl; rfl; apply Eq.trans; apply PL.stPk; rfl; rfl; rfl; rfl; rfl; rfl)
  · show some (PV.int (r.getD j 0 + s)) = some (PV.int ((unI (.tup (Ints r))).getD j 0 + s))
    rw [unI_t]
def hMx (A : List (List Int)) (ss : List Int) : PV → PV
  | .int j => .int (maxL (mdj A ss j.toNat))
  | _ => .non
theorem map_hMx (A : List (List Int)) (ss : List Int) (w : Nat) : (rangeP 0 w).map (hMx A ss) = Ints (md A ss w) := by
  rw [rangeP_map]
  unfold md Ints
  rw [List.map_map]; rfl
theorem S_made (H : Mk A w) (h8 : A.length ≤ 8) (w8 : w ≤ 8) {ss : List Int} (hl : ss.length = A.length) : F_made [.fz (.tup (Tps A)), .fz (.tup (Ints ss))] = some (.fz (.tup (Ints (md A ss w))), [.fz (.tup (Tps A)), .fz (.tup (Ints ss))]) := by
  have e1 := S_check_makers H h8 w8
  have e2 := S_are_integers (p := .tup (Ints ss)) (m := (A.length : Nat)) (.inr rfl) (by rw [hl])
  have e0 := H.at0
  have e3 := H.l0
  have e4 := Tps_len A
  have hw : iRange1 (eNary clLen (aCons (eBin opIx (ePk 0) (eC (.int 0))) aNil)) [.fz (.tup (Tps A)), .fz (.tup (Ints ss)), .own (zipP (Tps A) (Ints ss)), .un, .un, .un] = some (rangeP 0 w, [], [.fz (.tup (Tps A)), .fz (.tup (Ints ss)), .own (zipP (Tps A) (Ints ss)), .un, .un, .un]) := by (apply Eq.trans; apply PL.stRange1; apply Eq.trans; apply PL.stNary; apply Eq.trans; apply PL.stCons; apply Eq.trans; apply PL.stBin; apply Eq.trans; apply PL.stPk; rfl; rfl; apply Eq.trans; apply PL.stC; rfl; rfl; rfl; apply Eq.trans; apply PL.opIx_t; exact e0; rfl; rfl; apply Eq.trans; apply PL.stNil; rfl; rfl; rfl; apply Eq.trans; apply PL.clLen_t; exact e3; rfl; rfl; exact (show _ = (((w) : Nat) : Int) from by first | rfl | omega); (first | assumption | omega); rfl)
  obtain ⟨qs, ρ', e5, ⟨s2, y3, hρ, h2⟩, lq, hq⟩ := eLc_ex (vs := [3]) (g := gNm 3) (fe := eNary clMax2 (aCons F_made_l1 aNil)) (I := fun ρ => ∃ s2 y3, ρ = [.fz (.tup (Tps A)), .fz (.tup (Ints ss)), s2, y3, .un, .un] ∧ (s2 = .own (zipP (Tps A) (Ints ss)) ∨ s2 = .fz (.lst (zipP (Tps A) (Ints ss))))) (P := fun p q => q = hMx A ss p) hw ⟨_, _, rfl, .inl rfl⟩ fun p hp ρ ⟨s2, y3, hρ, h2⟩ => by
    subst hρ
    obtain ⟨j, hj, rfl⟩ := rangeP_mem hp
    have f1 := L_md1 (q2 := .fz (.tup (Tps A))) (q3 := .fz (.tup (Ints ss))) H (ss := ss) hj h2 .un .un
    have f2 := intsOf_Ints (mdj A ss j)
    have f3 := mdj_ne H hl j
    refine ⟨[.fz (.tup (Tps A)), .fz (.tup (Ints ss)), s2, .fz (.int (j : Nat)), .un, .un], [.fz (.tup (Tps A)), .fz (.tup (Ints ss)), .fz (.lst (zipP (Tps A) (Ints ss))), .fz (.int (j : Nat)), .un, .un], .fz (.int (maxL (mdj A ss j))), .int (maxL (mdj A ss j)), rfl, ?_, rfl, rfl, _, _, rfl, .inr rfl⟩
    (apply Eq.trans; apply PL.stNary; apply Eq.trans; apply PL.stCons; exact f1; apply Eq.trans; apply PL.stNil; rfl; rfl; rfl; apply Eq.trans; apply PL.clMax2_l; exact f2; (first | assumption | decide | omega | simp [PL.lineN]); rfl; rfl)
  subst hρ
  rw [map_of lq hq, map_hMx] at e5
  have e6 : F_made_l2 [.fz (.tup (Tps A)), .fz (.tup (Ints ss)), .own (zipP (Tps A) (Ints ss)), .un, .un, .un] = some (.own (Ints (md A ss w)), [.fz (.tup (Tps A)), .fz (.tup (Ints ss)), s2, .un, .un, .un]) := e5
  clear e5 hw lq hq h2
  unfold F_made
  (apply Eq.trans; apply PL.stFn; apply PL.stSeqN; apply Eq.trans; apply PL.stExpr; apply Eq.trans; apply PL.stCall; apply Eq.trans; apply PL.stCons; apply Eq.trans; apply PL.stVar; rfl; rfl; apply Eq.trans; apply PL.stNil; rfl; rfl; exact e1; rfl; rfl; apply PL.stSeqN; apply Eq.trans; apply PL.stIfN; apply Eq.trans; apply PL.stNot; apply Eq.trans; apply PL.stOf; apply Eq.trans; apply PL.stCall; apply Eq.trans; apply PL.stCons; apply Eq.trans; apply PL.stVar; rfl; rfl; apply Eq.trans; apply PL.stCons; apply Eq.trans; apply PL.stNary; apply Eq.trans; apply PL.stCons; apply Eq.trans; apply PL.stPk; rfl; rfl; apply Eq.trans; apply PL.stNil; rfl; rfl; rfl; apply Eq.trans; apply PL.clLen_t; exact e4; rfl; rfl; apply Eq.trans; apply PL.stNil; rfl; rfl; rfl; exact e2; rfl; rfl; rfl; exact (PL.not_f rfl); apply Eq.trans; apply PL.stNilS; rfl; rfl; apply PL.stSeqN; apply Eq.trans; apply PL.stSet; apply Eq.trans; apply PL.stListZ; apply Eq.trans; apply PL.stCons; apply Eq.trans; apply PL.stVar; rfl; rfl; apply Eq.trans; apply PL.stCons; apply Eq.trans; apply PL.stVar; rfl; rfl; apply Eq.trans; apply PL.stNil; rfl; rfl; rfl; rfl; rfl; rfl; rfl; rfl; apply Eq.trans; apply PL.stRet; apply Eq.trans; apply PL.stNary; apply Eq.trans; apply PL.stCons; exact e6; apply Eq.trans; apply PL.stNil; rfl; rfl; rfl; rfl; rfl; rfl; rfl; rfl)
theorem S_nearest (H : Mk A w) (h8 : A.length ≤ 8) (w8 : w ≤ 8) {row : List Int} (hl : row.length = w) : F_nearest [.fz (.tup (Tps A)), .fz (.tup (Ints row))] = some (.fz (.tup (Ints (nea A w row))), [.fz (.tup (Tps A)), .fz (.tup (Ints row))]) := by
  have e1 := S_greatest_shifts H h8 w8 hl
  have e2 := S_made H h8 w8 (ss := shs A row) (by unfold shs; rw [List.length_map])
  rw [nea_md]
  unfold F_nearest
  (apply Eq.trans; apply PL.stFn; apply Eq.trans; apply PL.stRet; apply Eq.trans; apply PL.stCall; apply Eq.trans; apply PL.stCons; apply Eq.trans; apply PL.stVar; rfl; rfl; apply Eq.trans; apply PL.stCons; apply Eq.trans; apply PL.stCall; apply Eq.trans; apply PL.stCons; apply Eq.trans; apply PL.stVar; rfl; rfl; apply Eq.trans; apply PL.stCons; apply Eq.trans; apply PL.stVar; rfl; rfl; apply Eq.trans; apply PL.stNil; rfl; rfl; rfl; exact e1; rfl; apply Eq.trans; apply PL.stNil; rfl; rfl; rfl; exact e2; rfl; rfl; rfl; rfl)
theorem S_is_in_span (H : Mk A w) (h8 : A.length ≤ 8) (w8 : w ≤ 8) {row : List Int} (hl : row.length = w) : F_is_in_span [.fz (.tup (Tps A)), .fz (.tup (Ints row))] = some (.fz (.bl (nea A w row == row)), [.fz (.tup (Tps A)), .fz (.tup (Ints row))]) := by
  have e1 := S_greatest_shifts H h8 w8 hl
  have e2 := S_made H h8 w8 (ss := shs A row) (by unfold shs; rw [List.length_map])
  have e3 : opEq (.tup (Ints (md A (shs A row) w))) (.tup (Ints row)) = some (.fz (.bl (nea A w row == row))) := by
    rw [nea_md]
    unfold opEq
    rw [datN_t, datN_t, datNs_Ints, datNs_Ints, if_pos ⟨rfl, rfl⟩, eqP_tt, eqPs_Ints]
  unfold F_is_in_span
  (apply Eq.trans; apply PL.stFn; apply Eq.trans; apply PL.stRet; apply Eq.trans; apply PL.stBin; apply Eq.trans; apply PL.stCall; apply Eq.trans; apply PL.stCons; apply Eq.trans; apply PL.stVar; rfl; rfl; apply Eq.trans; apply PL.stCons; apply Eq.trans; apply PL.stCall; apply Eq.trans; apply PL.stCons; apply Eq.trans; apply PL.stVar; rfl; rfl; apply Eq.trans; apply PL.stCons; apply Eq.trans; apply PL.stVar; rfl; rfl; apply Eq.trans; apply PL.stNil; rfl; rfl; rfl; exact e1; rfl; apply Eq.trans; apply PL.stNil; rfl; rfl; rfl; exact e2; rfl; apply Eq.trans; apply PL.stNary; apply Eq.trans; apply PL.stCons; apply Eq.trans; apply PL.stPk; rfl; rfl; apply Eq.trans; apply PL.stNil; rfl; rfl; rfl; rfl; rfl; rfl; rfl; exact e3; rfl; rfl; rfl; rfl)
end
end Wk24
set_option Elab.async false
set_option linter.all false
set_option maxRecDepth 100000
set_option maxHeartbeats 1000000
namespace Wk24
open PySem PL
section
variable {A B : List (List Int)} {w : Nat}
theorem mx_t {r : List Int} (h : r ≠ []) : clMax2 [.tup (Ints r)] = some (.fz (.int (maxL r))) := by
  unfold clMax2
  show (intsOf (Ints r)).bind _ = _
  rw [intsOf_Ints, Option.bind_some, if_neg (by cases r with | nil => exact absurd rfl h | cons _ _ => simp)]
theorem mn_t {r : List Int} (h : r ≠ []) : clMin2 [.tup (Ints r)] = some (.fz (.int (minL r))) := by
  unfold clMin2
  show (intsOf (Ints r)).bind _ = _
  rw [intsOf_Ints, Option.bind_some, if_neg (by cases r with | nil => exact absurd rfl h | cons _ _ => simp)]
def hOs (p : PV) : PV := .int (oscl (unI p))
theorem map_hOs (A : List (List Int)) : (Tps A).map hOs = Ints (A.map oscl) := by
  unfold Tps Ints
  rw [List.map_map, List.map_map]
  refine List.map_congr_left fun r _ => ?_
  show PV.int (oscl (unI (.tup (Ints r)))) = .int (oscl r)
  rw [unI_t]
theorem Mk.ne (H : Mk A w) {r : List Int} (hr : r ∈ A) : r ≠ [] := fun z => by
  have h1 := H.ln r hr
  have h2 := H.w1
  rw [z] at h1
  simp only [List.length_nil] at h1
  omega
theorem S_spread (H : Mk A w) (w8 : w ≤ 8) : F_spread [.fz (.tup (Tps A))] = some (.fz (.int (spr A w)), [.fz (.tup (Tps A))]) := by
  have e0 := H.at0
  have e3 := H.l0
  have e1 : F_spread_l1 [.fz (.tup (Tps A)), .un] = some (.own (Ints (A.map oscl)), [.fz (.tup (Tps A)), .un]) := by
    rw [← map_hOs]
    refine eLc_map (items := Tps A) (rs := [.fz (.tup (Tps A))]) hOs (by (apply Eq.trans; apply PL.stISeq; apply Eq.trans; apply PL.stVar; rfl; rfl; rfl; rfl)) (by rfl) (by decide) (by simp) fun z hz => ?_
    obtain ⟨r, hr, rfl⟩ := Tps_mem hz
    have f1 := mx_t (H.ne hr)
    have f2 := mn_t (H.ne hr)
    refine ⟨[.fz (.tup (Ints r))], .fz (.int (oscl r)), [.fz (.tup (Ints r))], rfl, rfl, rfl, ?_, ?_⟩
    · show eBin _ _ _ [.fz (.tup (Tps A)), .fz (.tup (Ints r))] = some (_, [.fz (.tup (Tps A)), .fz (.tup (Ints r))])
      unfold oscl
      (apply Eq.trans; apply PL.stBin; apply Eq.trans; apply PL.stNary; apply Eq.trans; apply PL.stCons; apply Eq.trans; apply PL.stPk; rfl; rfl; apply Eq.trans; apply PL.stNil; rfl; rfl; rfl; exact f1; rfl; apply Eq.trans; apply PL.stNary; apply Eq.trans; apply PL.stCons; apply Eq.trans; apply PL.stPk; rfl; rfl; apply Eq.trans; apply PL.stNil; rfl; rfl; rfl; exact f2; rfl; rfl; rfl; rfl; rfl)
    · show some (PV.int (oscl r)) = some (PV.int (oscl (unI (.tup (Ints r)))))
      rw [unI_t]
  have e2 := intsOf_Ints (A.map oscl)
  have e4 := opMul_r (i := (A.map oscl).sum) (j := (w : Nat)) (by omega)
  unfold F_spread spr
  (apply Eq.trans; apply PL.stFn; apply Eq.trans; apply PL.stRet; apply Eq.trans; apply PL.stBin; apply Eq.trans; apply PL.stNary; apply Eq.trans; apply PL.stCons; exact e1; apply Eq.trans; apply PL.stNil; rfl; rfl; rfl; apply Eq.trans; apply PL.clSum2_l; exact e2; rfl; rfl; apply Eq.trans; apply PL.stNary; apply Eq.trans; apply PL.stCons; apply Eq.trans; apply PL.stBin; apply Eq.trans; apply PL.stPk; rfl; rfl; apply Eq.trans; apply PL.stC; rfl; rfl; rfl; apply Eq.trans; apply PL.opIx_t; exact e0; rfl; rfl; apply Eq.trans; apply PL.stNil; rfl; rfl; rfl; apply Eq.trans; apply PL.clLen_t; exact e3; rfl; rfl; rfl; rfl; exact e4; rfl; rfl; rfl; rfl)
theorem opEq_tI (a b : List Int) : opEq (.tup (Ints a)) (.tup (Ints b)) = some (.fz (.bl (a == b))) := by
  unfold opEq
  rw [datN_t, datN_t, datNs_Ints, datNs_Ints, if_pos ⟨rfl, rfl⟩, eqP_tt, eqPs_Ints]
def rv : Option (List Int) → PV
  | none => .non
  | some r => .tup (Ints r)
theorem L_cr (HA : Mk A w) (HB : Mk B w) (a8 : A.length ≤ 8) (b8 : B.length ≤ 8) (w8 : w ≤ 8) (bot : Int) : ∀ (items : List PV) (here : List Int) (v : Option (List Int)) (x4 x5 x6 : Sl), here.length = w → cgo A B w bot items.length here = some v →
    ∃ y2 y4 y5 y6, forP (gNm 4) F_common_row_b1 items [.fz (.tup (Tps A)), .fz (.tup (Tps B)), .fz (.tup (Ints here)), .fz (.int bot), x4, x5, x6] = some (.rt (.fz (rv v)), [.fz (.tup (Tps A)), .fz (.tup (Tps B)), y2, .fz (.int bot), y4, y5, y6])
  | [], here, v, x4, x5, x6, hl, h => by cases h
  | p :: ps, here, v, x4, x5, x6, hl, h => by
    rw [List.length_cons] at h
    unfold cgo at h
    have hn : here ≠ [] := fun z => by
      have := HA.w1
      rw [z] at hl
      simp only [List.length_nil] at hl
      omega
    have e1 := mn_t hn
    rw [forP]
    show ∃ y2 y4 y5 y6, (F_common_row_b1 [.fz (.tup (Tps A)), .fz (.tup (Tps B)), .fz (.tup (Ints here)), .fz (.int bot), .fz p, x5, x6]).bind _ = _
    by_cases c : minL here < bot
    · rw [if_pos c] at h
      cases h
      have e2 : F_common_row_b1 [.fz (.tup (Tps A)), .fz (.tup (Tps B)), .fz (.tup (Ints here)), .fz (.int bot), .fz p, x5, x6] = some (.rt (.fz .non), [.fz (.tup (Tps A)), .fz (.tup (Tps B)), .fz (.tup (Ints here)), .fz (.int bot), .fz p, x5, x6]) := by
        unfold F_common_row_b1
        (apply Eq.trans; apply PL.stSeqO; apply Eq.trans; apply PL.stIfT; apply Eq.trans; apply PL.stOf; apply Eq.trans; apply PL.stBin; apply Eq.trans; apply PL.stNary; apply Eq.trans; apply PL.stCons; apply Eq.trans; apply PL.stPk; rfl; rfl; apply Eq.trans; apply PL.stNil; rfl; rfl; rfl; exact e1; rfl; apply Eq.trans; apply PL.stPk; rfl; rfl; rfl; rfl; rfl; rfl; rfl; exact (decide_eq_true (by first | with_reducible assumption | rfl | omega | (simp only [*]; done))); apply Eq.trans; apply PL.stRet; apply Eq.trans; apply PL.stC; rfl; rfl; rfl; rfl; rfl; rfl)
      rw [e2]
      exact ⟨_, _, _, _, rfl⟩
    · rw [if_neg c] at h
      have l1 : (nea B w here).length = w := nea_len _ _ _
      have l2 : (nea A w (nea B w here)).length = w := nea_len _ _ _
      have f1 := S_nearest HB b8 w8 hl
      have f2 := S_nearest HA a8 w8 l1
      have f3 := opEq_tI (nea A w (nea B w here)) here
      by_cases d : nea A w (nea B w here) = here
      · rw [if_pos d] at h
        cases h
        have f4 : (nea A w (nea B w here) == here) = true := beq_iff_eq.mpr d
        rw [f4] at f3
        have e2 : F_common_row_b1 [.fz (.tup (Tps A)), .fz (.tup (Tps B)), .fz (.tup (Ints here)), .fz (.int bot), .fz p, x5, x6] = some (.rt (.fz (.tup (Ints here))), [.fz (.tup (Tps A)), .fz (.tup (Tps B)), .fz (.tup (Ints here)), .fz (.int bot), .fz p, .fz (.tup (Ints (nea B w here))), .fz (.tup (Ints (nea A w (nea B w here))))]) := by
          unfold F_common_row_b1
          (apply PL.stSeqN; apply Eq.trans; apply PL.stIfN; apply Eq.trans; apply PL.stOf; apply Eq.trans; apply PL.stBin; apply Eq.trans; apply PL.stNary; apply Eq.trans; apply PL.stCons; apply Eq.trans; apply PL.stPk; rfl; rfl; apply Eq.trans; apply PL.stNil; rfl; rfl; rfl; exact e1; rfl; apply Eq.trans; apply PL.stPk; rfl; rfl; rfl; rfl; rfl; rfl; rfl; exact (decide_eq_false (by first | with_reducible assumption | rfl | omega | (simp only [*]; done))); apply Eq.trans; apply PL.stNilS; rfl; rfl; apply PL.stSeqN; apply Eq.trans; apply PL.stSet; apply Eq.trans; apply PL.stCall; apply Eq.trans; apply PL.stCons; apply Eq.trans; apply PL.stVar; rfl; rfl; apply Eq.trans; apply PL.stCons; apply Eq.trans; apply PL.stVar; rfl; rfl; apply Eq.trans; apply PL.stNil; rfl; rfl; rfl; exact f1; rfl; rfl; rfl; apply PL.stSeqN; apply Eq.trans; apply PL.stSet; apply Eq.trans; apply PL.stCall; apply Eq.trans; apply PL.stCons; apply Eq.trans; apply PL.stVar; rfl; rfl; apply Eq.trans; apply PL.stCons; apply Eq.trans; apply PL.stVar; rfl; rfl; apply Eq.trans; apply PL.stNil; rfl; rfl; rfl; exact f2; rfl; rfl; rfl; apply Eq.trans; apply PL.stSeqO; apply Eq.trans; apply PL.stIfT; apply Eq.trans; apply PL.stOf; apply Eq.trans; apply PL.stBin; apply Eq.trans; apply PL.stPk; rfl; rfl; apply Eq.trans; apply PL.stPk; rfl; rfl; rfl; rfl; exact f3; rfl; rfl; exact rfl; apply Eq.trans; apply PL.stRet; apply Eq.trans; apply PL.stVar; rfl; rfl; rfl; rfl; rfl; rfl; rfl)
        rw [e2]
        exact ⟨_, _, _, _, rfl⟩
      · rw [if_neg d] at h
        have f4 : (nea A w (nea B w here) == here) = false := beq_eq_false_iff_ne.mpr d
        rw [f4] at f3
        have e2 : F_common_row_b1 [.fz (.tup (Tps A)), .fz (.tup (Tps B)), .fz (.tup (Ints here)), .fz (.int bot), .fz p, x5, x6] = some (.nx, [.fz (.tup (Tps A)), .fz (.tup (Tps B)), .fz (.tup (Ints (nea A w (nea B w here)))), .fz (.int bot), .fz p, .fz (.tup (Ints (nea B w here))), .fz (.tup (Ints (nea A w (nea B w here))))]) := by
          unfold F_common_row_b1
          (apply PL.stSeqN; apply Eq.trans; apply PL.stIfN; apply Eq.trans; apply PL.stOf; apply Eq.trans; apply PL.stBin; apply Eq.trans; apply PL.stNary; apply Eq.trans; apply PL.stCons; apply Eq.trans; apply PL.stPk; rfl; rfl; apply Eq.trans; apply PL.stNil; rfl; rfl; rfl; exact e1; rfl; apply Eq.trans; apply PL.stPk; rfl; rfl; rfl; rfl; rfl; rfl; rfl; exact (decide_eq_false (by first | with_reducible assumption | rfl | omega | (simp only [*]; done))); apply Eq.trans; apply PL.stNilS; rfl; rfl; apply PL.stSeqN; apply Eq.trans; apply PL.stSet; apply Eq.trans; apply PL.stCall; apply Eq.trans; apply PL.stCons; apply Eq.trans; apply PL.stVar; rfl; rfl; apply Eq.trans; apply PL.stCons; apply Eq.trans; apply PL.stVar; rfl; rfl; apply Eq.trans; apply PL.stNil; rfl; rfl; rfl; exact f1; rfl; rfl; rfl; apply PL.stSeqN; apply Eq.trans; apply PL.stSet; apply Eq.trans; apply PL.stCall; apply Eq.trans; apply PL.stCons; apply Eq.trans; apply PL.stVar; rfl; rfl; apply Eq.trans; apply PL.stCons; apply Eq.trans; apply PL.stVar; rfl; rfl; apply Eq.trans; apply PL.stNil; rfl; rfl; rfl; exact f2; rfl; rfl; rfl; apply PL.stSeqN; apply Eq.trans; apply PL.stIfN; apply Eq.trans; apply PL.stOf; apply Eq.trans; apply PL.stBin; apply Eq.trans; apply PL.stPk; rfl; rfl; apply Eq.trans; apply PL.stPk; rfl; rfl; rfl; rfl; exact f3; rfl; rfl; exact rfl; apply Eq.trans; apply PL.stNilS; rfl; rfl; apply Eq.trans; apply PL.stSet; apply Eq.trans; apply PL.stVar; rfl; rfl; rfl; rfl)
        rw [e2]
        exact L_cr HA HB a8 b8 w8 bot ps _ v _ _ _ l2 h
theorem S_common_row (HA : Ok A w) (HB : Ok B w) {v : Option (List Int)} (h : cmn A B w = some v) : F_common_row [.fz (.tup (Tps A)), .fz (.tup (Tps B))] = some (.fz (rv v), [.fz (.tup (Tps A)), .fz (.tup (Tps B))]) := by
  have a8 : A.length ≤ 8 := by have := HA.n3; omega
  have b8 : B.length ≤ 8 := by have := HB.n3; omega
  have w8 : w ≤ 8 := by have := HA.w3; omega
  have e1 := S_check_makers HA.km a8 w8
  have e2 := S_check_makers HB.km b8 w8
  have e3 := HA.km.at0
  have e4 := HB.km.at0
  have e5 := HA.km.l0
  have e6 := HB.km.l0
  have e7 := S_spread HA.km w8
  have e8 := S_spread HB.km w8
  have e9 := mn_t (HA.km.ne HA.km.hd)
  have hl : (A.getD 0 []).length = w := HA.km.ln _ HA.km.hd
  obtain ⟨y2, y4, y5, y6, ef⟩ := L_cr HA.km HB.km a8 b8 w8 (bott A B w) (rangeP 0 2000) (A.getD 0 []) v .un .un .un hl (by rw [rangeP_len]; exact h)
  have eg : F_common_row_f1 [.fz (.tup (Tps A)), .fz (.tup (Tps B)), .fz (.tup (Ints (A.getD 0 []))), .fz (.int (bott A B w)), .un, .un, .un] = some (.rt (.fz (rv v)), [.fz (.tup (Tps A)), .fz (.tup (Tps B)), y2, .fz (.int (bott A B w)), y4, y5, y6]) := by
    unfold F_common_row_f1
    generalize bott A B w = bt at *
    (apply Eq.trans; apply PL.stFor; apply Eq.trans; apply PL.stRange1; apply Eq.trans; apply PL.stC; rfl; exact (show _ = (((2000) : Nat) : Int) from by first | rfl | omega); (first | assumption | omega); rfl; exact ef; rfl)
  clear ef
  unfold bott at eg
  unfold F_common_row
  (apply Eq.trans; apply PL.stFn; apply PL.stSeqN; apply Eq.trans; apply PL.stExpr; apply Eq.trans; apply PL.stCall; apply Eq.trans; apply PL.stCons; apply Eq.trans; apply PL.stVar; rfl; rfl; apply Eq.trans; apply PL.stNil; rfl; rfl; exact e1; rfl; rfl; apply PL.stSeqN; apply Eq.trans; apply PL.stExpr; apply Eq.trans; apply PL.stCall; apply Eq.trans; apply PL.stCons; apply Eq.trans; apply PL.stVar; rfl; rfl; apply Eq.trans; apply PL.stNil; rfl; rfl; exact e2; rfl; rfl; apply PL.stSeqN; apply Eq.trans; apply PL.stIfN; apply Eq.trans; apply PL.stOf; apply Eq.trans; apply PL.stBin; apply Eq.trans; apply PL.stNary; apply Eq.trans; apply PL.stCons; apply Eq.trans; apply PL.stBin; apply Eq.trans; apply PL.stPk; rfl; rfl; apply Eq.trans; apply PL.stC; rfl; rfl; rfl; apply Eq.trans; apply PL.opIx_t; exact e3; rfl; rfl; apply Eq.trans; apply PL.stNil; rfl; rfl; rfl; apply Eq.trans; apply PL.clLen_t; exact e5; rfl; rfl; apply Eq.trans; apply PL.stNary; apply Eq.trans; apply PL.stCons; apply Eq.trans; apply PL.stBin; apply Eq.trans; apply PL.stPk; rfl; rfl; apply Eq.trans; apply PL.stC; rfl; rfl; rfl; apply Eq.trans; apply PL.opIx_t; exact e4; rfl; rfl; apply Eq.trans; apply PL.stNil; rfl; rfl; rfl; apply Eq.trans; apply PL.clLen_t; exact e6; rfl; rfl; rfl; rfl; apply Eq.trans; apply PL.opNe_ii; rfl; rfl; rfl; exact (PL.not_f (decide_eq_true (by first | with_reducible assumption | rfl | omega | (simp only [*]; done)))); apply Eq.trans; apply PL.stNilS; rfl; rfl; apply PL.stSeqN; apply Eq.trans; apply PL.stSet; apply Eq.trans; apply PL.stNary; apply Eq.trans; apply PL.stCons; apply Eq.trans; apply PL.stBin; apply Eq.trans; apply PL.stPk; rfl; rfl; apply Eq.trans; apply PL.stC; rfl; rfl; rfl; apply Eq.trans; apply PL.opIx_t; exact e3; rfl; rfl; apply Eq.trans; apply PL.stNil; rfl; rfl; rfl; rfl; rfl; rfl; rfl; apply PL.stSeqN; apply Eq.trans; apply PL.stSet; apply Eq.trans; apply PL.stBin; apply Eq.trans; apply PL.stBin; apply Eq.trans; apply PL.stBin; apply Eq.trans; apply PL.stNary; apply Eq.trans; apply PL.stCons; apply Eq.trans; apply PL.stPk; rfl; rfl; apply Eq.trans; apply PL.stNil; rfl; rfl; rfl; exact e9; rfl; apply Eq.trans; apply PL.stCall; apply Eq.trans; apply PL.stCons; apply Eq.trans; apply PL.stVar; rfl; rfl; apply Eq.trans; apply PL.stNil; rfl; rfl; exact e7; rfl; rfl; rfl; rfl; rfl; apply Eq.trans; apply PL.stCall; apply Eq.trans; apply PL.stCons; apply Eq.trans; apply PL.stVar; rfl; rfl; apply Eq.trans; apply PL.stNil; rfl; rfl; exact e8; rfl; rfl; rfl; rfl; rfl; apply Eq.trans; apply PL.stC; rfl; rfl; rfl; rfl; rfl; rfl; rfl; apply Eq.trans; apply PL.stSeqO; exact eg; rfl; rfl; rfl)
end
end Wk24
set_option Elab.async false
set_option linter.all false
set_option maxRecDepth 100000
set_option maxHeartbeats 1000000
namespace Wk24
open PySem PL
section
variable {A B : List (List Int)} {w : Nat}
theorem L_ls (q : Sl) (r row : List Int) (x3 x4 : Sl) : F__law_shifts_l1 [q, .fz (.tup (Ints row)), .fz (.tup (Ints r)), x3, x4] = some (.own (Ints (List.zipWith (fun a b => b - a) r row)), [q, .fz (.tup (Ints row)), .fz (.tup (Ints r)), x3, x4]) := L_gs q r row x3 x4
theorem S_lshifts (H : Mk A w) {row : List Int} (hl : row.length = w) : F__law_shifts [.fz (.tup (Tps A)), .fz (.tup (Ints row))] = some (.fz (.tup (Ints (shs A row))), [.fz (.tup (Tps A)), .fz (.tup (Ints row))]) := by
  have e2 : F__law_shifts_l2 [.fz (.tup (Tps A)), .fz (.tup (Ints row)), .un, .un, .un] = some (.own (Ints (shs A row)), [.fz (.tup (Tps A)), .fz (.tup (Ints row)), .un, .un, .un]) := by
    rw [← map_hSh]
    refine eLc_map (items := Tps A) (rs := [.fz (.tup (Tps A))]) (hSh row) (by (apply Eq.trans; apply PL.stISeq; apply Eq.trans; apply PL.stVar; rfl; rfl; rfl; rfl)) (by rfl) (by decide) (by simp) fun z hz => ?_
    obtain ⟨r, hr, rfl⟩ := Tps_mem hz
    have f1 := L_ls (.fz (.tup (Tps A))) r row .un .un
    have f2 := intsOf_Ints (List.zipWith (fun a b => b - a) r row)
    have f3 := zwne (fun a b => b - a) (H.ln r hr) hl H.w1
    refine ⟨[.fz (.tup (Ints r))], .fz (.int (sh r row)), [.fz (.tup (Ints r))], rfl, rfl, rfl, ?_, ?_⟩
    · show eNary _ _ [.fz (.tup (Tps A)), .fz (.tup (Ints row)), .fz (.tup (Ints r)), .un, .un] = some (_, [.fz (.tup (Tps A)), .fz (.tup (Ints row)), .fz (.tup (Ints r)), .un, .un])
      unfold sh
      (apply Eq.trans; apply PL.stNary; apply Eq.trans; apply PL.stCons; exact f1; apply Eq.trans; apply PL.stNil; rfl; rfl; rfl; apply Eq.trans; apply PL.clMin2_l; exact f2; (first | assumption | decide | omega | simp [PL.lineN]); rfl; rfl)
    · show some (PV.int (sh r row)) = some (PV.int (sh (unI (.tup (Ints r))) row))
      rw [unI_t]
  unfold F__law_shifts
  (apply Eq.trans; apply PL.stFn; apply Eq.trans; apply PL.stRet; apply Eq.trans; apply PL.stNary; apply Eq.trans; apply PL.stCons; exact e2; apply Eq.trans; apply PL.stNil; rfl; rfl; rfl; rfl; rfl; rfl; rfl; rfl)
theorem L_lm1 (H : Mk A w) {ss : List Int} {j : Nat} (hj : j < w) (s2 x4 x5 : Sl) :
    F__law_made_l1 [.fz (.tup (Tps A)), .fz (.tup (Ints ss)), s2, .fz (.int (j : Nat)), x4, x5] = some (.own (Ints (mdj A ss j)), [.fz (.tup (Tps A)), .fz (.tup (Ints ss)), s2, .fz (.int (j : Nat)), x4, x5]) := by
  rw [← zip_hMd]
  refine eLc_map (items := zipP (Tps A) (Ints ss)) (rs := [.fz (.tup (Tps A)), .fz (.tup (Ints ss))]) (hMd j) (by (apply Eq.trans; apply PL.stZip2; apply Eq.trans; apply PL.stCons; apply Eq.trans; apply PL.stVar; rfl; rfl; apply Eq.trans; apply PL.stCons; apply Eq.trans; apply PL.stVar; rfl; rfl; apply Eq.trans; apply PL.stNil; rfl; rfl; rfl; rfl; rfl; rfl)) (by rfl) (by decide) (by simp) fun z hz => ?_
  obtain ⟨r, s, hr, rfl⟩ := zipTI_mem hz
  have e1 := atI_I (r := r) (j := j) (by rw [H.ln r hr]; exact hj)
  refine ⟨[.fz (.tup (Ints r)), .fz (.int s)], .fz (.int (r.getD j 0 + s)), [.fz (.tup (Ints r)), .fz (.int s)], rfl, rfl, rfl, ?_, ?_⟩
  · show eBin _ _ _ [.fz (.tup (Tps A)), .fz (.tup (Ints ss)), s2, .fz (.int (j : Nat)), .fz (.tup (Ints r)), .fz (.int s)] = some (_, [.fz (.tup (Tps A)), .fz (.tup (Ints ss)), s2, .fz (.int (j : Nat)), .fz (.tup (Ints r)), .fz (.int s)])
    (apply Eq.trans; apply PL.stBin; apply Eq.trans; apply PL.stBin; apply Eq.trans; apply PL.stPk; rfl; rfl; apply Eq.trans; apply PL.stPk; rfl; rfl; rfl; rfl; apply Eq.trans; apply PL.opIx_t; exact e1; rfl; rfl; apply Eq.trans; apply PL.stPk; rfl; rfl; rfl; rfl; rfl; rfl)
  · show some (PV.int (r.getD j 0 + s)) = some (PV.int ((unI (.tup (Ints r))).getD j 0 + s))
    rw [unI_t]
theorem S_lmade (H : Mk A w) (w8 : w ≤ 8) {ss : List Int} (hl : ss.length = A.length) : F__law_made [.fz (.tup (Tps A)), .fz (.tup (Ints ss))] = some (.fz (.tup (Ints (md A ss w))), [.fz (.tup (Tps A)), .fz (.tup (Ints ss))]) := by
  have e0 := H.at0
  have e3 := H.l0
  obtain ⟨ρ', e, y3, hρ⟩ := forP_ex (g := gNm 3) (body := F__law_made_b1) (I := fun ρ k => ∃ y3, ρ = [.fz (.tup (Tps A)), .fz (.tup (Ints ss)), .own (((rangeP 0 w).map (hMx A ss)).take k), y3, .un, .un]) (rangeP 0 w) 0 [.fz (.tup (Tps A)), .fz (.tup (Ints ss)), .own [], .un, .un, .un] ⟨_, rfl⟩ fun j p ρ hj ⟨y3, hρ⟩ => by
    subst hρ
    obtain ⟨hj', rfl⟩ := rangeP_get hj
    have f1 := L_lm1 H (ss := ss) hj' (.own (((rangeP 0 w).map (hMx A ss)).take (0 + j))) .un .un
    have f2 := intsOf_Ints (mdj A ss j)
    have f3 := mdj_ne H hl j
    have hs : (((rangeP 0 w).map (hMx A ss)).take (0 + j)).length < lineN := by
      rw [List.length_take, List.length_map, rangeP_len]
      unfold lineN
      omega
    have ht : ((rangeP 0 w).map (hMx A ss)).take (0 + j + 1) = ((rangeP 0 w).map (hMx A ss)).take (0 + j) ++ [.int (maxL (mdj A ss j))] := by
      rw [List.take_add_one]
      congr 1
      rw [List.getElem?_map, show 0 + j = j by omega, hj]; rfl
    rw [ht]
    generalize ((rangeP 0 w).map (hMx A ss)).take (0 + j) = acc at *
    refine ⟨_, [.fz (.tup (Tps A)), .fz (.tup (Ints ss)), .own (acc ++ [.int (maxL (mdj A ss j))]), .fz (.int (j : Nat)), .un, .un], rfl, .inl ?_, _, rfl⟩
    show F__law_made_b1 [.fz (.tup (Tps A)), .fz (.tup (Ints ss)), .own acc, .fz (.int (j : Nat)), .un, .un] = _
    unfold F__law_made_b1
    (apply Eq.trans; apply PL.stExpr; apply Eq.trans; apply PL.stAppend; rfl; apply Eq.trans; apply PL.stNary; apply Eq.trans; apply PL.stCons; exact f1; apply Eq.trans; apply PL.stNil; rfl; rfl; rfl; apply Eq.trans; apply PL.clMax2_l; exact f2; (first | assumption | decide | omega | simp [PL.lineN]); rfl; rfl; rfl; rfl; (first | assumption | decide | omega | simp [PL.lineN]); rfl; rfl)
  subst hρ
  rw [List.take_of_length_le (by rw [List.length_map]; omega), map_hMx] at e
  have e2 : F__law_made_f1 [.fz (.tup (Tps A)), .fz (.tup (Ints ss)), .own [], .un, .un, .un] = some (.nx, [.fz (.tup (Tps A)), .fz (.tup (Ints ss)), .own (Ints (md A ss w)), y3, .un, .un]) := by
    unfold F__law_made_f1
    (apply Eq.trans; apply PL.stFor; apply Eq.trans; apply PL.stRange1; apply Eq.trans; apply PL.stNary; apply Eq.trans; apply PL.stCons; apply Eq.trans; apply PL.stBin; apply Eq.trans; apply PL.stPk; rfl; rfl; apply Eq.trans; apply PL.stC; rfl; rfl; rfl; apply Eq.trans; apply PL.opIx_t; exact e0; rfl; rfl; apply Eq.trans; apply PL.stNil; rfl; rfl; rfl; apply Eq.trans; apply PL.clLen_t; exact e3; rfl; rfl; exact (show _ = (((w) : Nat) : Int) from by first | rfl | omega); (first | assumption | omega); rfl; exact e; rfl)
  clear e
  unfold F__law_made
  (apply Eq.trans; apply PL.stFn; apply PL.stSeqN; apply Eq.trans; apply PL.stSet; apply Eq.trans; apply PL.stLst; apply Eq.trans; apply PL.stNil; rfl; rfl; (first | assumption | decide | omega | simp [PL.lineN]); rfl; rfl; rfl; apply PL.stSeqN; exact e2; apply Eq.trans; apply PL.stRet; apply Eq.trans; apply PL.stNary; apply Eq.trans; apply PL.stCons; apply Eq.trans; apply PL.stPkO; rfl; rfl; apply Eq.trans; apply PL.stNil; rfl; rfl; rfl; rfl; rfl; rfl; rfl; rfl)
theorem S_lnear (H : Mk A w) (w8 : w ≤ 8) {row : List Int} (hl : row.length = w) : F__law_near [.fz (.tup (Tps A)), .fz (.tup (Ints row))] = some (.fz (.tup (Ints (nea A w row))), [.fz (.tup (Tps A)), .fz (.tup (Ints row))]) := by
  have e1 := S_lshifts H hl
  have e2 := S_lmade H w8 (ss := shs A row) (by unfold shs; rw [List.length_map])
  rw [nea_md]
  unfold F__law_near
  (apply Eq.trans; apply PL.stFn; apply Eq.trans; apply PL.stRet; apply Eq.trans; apply PL.stCall; apply Eq.trans; apply PL.stCons; apply Eq.trans; apply PL.stVar; rfl; rfl; apply Eq.trans; apply PL.stCons; apply Eq.trans; apply PL.stCall; apply Eq.trans; apply PL.stCons; apply Eq.trans; apply PL.stVar; rfl; rfl; apply Eq.trans; apply PL.stCons; apply Eq.trans; apply PL.stVar; rfl; rfl; apply Eq.trans; apply PL.stNil; rfl; rfl; rfl; exact e1; rfl; apply Eq.trans; apply PL.stNil; rfl; rfl; rfl; exact e2; rfl; rfl; rfl; rfl)
theorem S_is_made (H : Mk A w) (w8 : w ≤ 8) {row : List Int} (hl : row.length = w) : F__law_is_made [.fz (.tup (Tps A)), .fz (.tup (Ints row))] = some (.fz (.bl (nea A w row == row)), [.fz (.tup (Tps A)), .fz (.tup (Ints row))]) := by
  have e1 := S_lnear H w8 hl
  have e3 := opEq_tI (nea A w row) row
  unfold F__law_is_made
  (apply Eq.trans; apply PL.stFn; apply Eq.trans; apply PL.stRet; apply Eq.trans; apply PL.stBin; apply Eq.trans; apply PL.stCall; apply Eq.trans; apply PL.stCons; apply Eq.trans; apply PL.stVar; rfl; rfl; apply Eq.trans; apply PL.stCons; apply Eq.trans; apply PL.stVar; rfl; rfl; apply Eq.trans; apply PL.stNil; rfl; rfl; rfl; exact e1; rfl; apply Eq.trans; apply PL.stPk; rfl; rfl; rfl; rfl; exact e3; rfl; rfl; rfl; rfl)
theorem Tps_app (A B : List (List Int)) : Tps A ++ Tps B = Tps (A ++ B) := by unfold Tps; rw [List.map_append]
theorem S_lspread (HA : Mk A w) (HB : Mk B w) (a8 : A.length ≤ 8) (b8 : B.length ≤ 8) : F__law_spread [.fz (.tup (Tps A)), .fz (.tup (Tps B))] = some (.fz (.int (lfar A B)), [.fz (.tup (Tps A)), .fz (.tup (Tps B))]) := by
  have ha : opAdd (.tup (Tps A)) (.tup (Tps B)) = some (.fz (.tup (Tps (A ++ B)))) := by
    rw [← Tps_app]
    exact opAdd_t (by rw [Tps_len, Tps_len]; omega)
  have e1 : F__law_spread_l1 [.fz (.tup (Tps A)), .fz (.tup (Tps B)), .un] = some (.own (Ints ((A ++ B).map oscl)), [.fz (.tup (Tps A)), .fz (.tup (Tps B)), .un]) := by
    rw [← map_hOs]
    refine eLc_map (items := Tps (A ++ B)) (rs := [.fz (.tup (Tps (A ++ B)))]) hOs (by (apply Eq.trans; apply PL.stISeq; apply Eq.trans; apply PL.stBin; apply Eq.trans; apply PL.stPk; rfl; rfl; apply Eq.trans; apply PL.stPk; rfl; rfl; rfl; rfl; exact ha; rfl; rfl; rfl)) (by rfl) (by decide) (by simp) fun z hz => ?_
    obtain ⟨r, hr, rfl⟩ := Tps_mem hz
    have hn : r ≠ [] := by
      rcases List.mem_append.mp hr with q | q
      · exact HA.ne q
      · exact HB.ne q
    have f1 := mx_t hn
    have f2 := mn_t hn
    refine ⟨[.fz (.tup (Ints r))], .fz (.int (oscl r)), [.fz (.tup (Ints r))], rfl, rfl, rfl, ?_, ?_⟩
    · show eBin _ _ _ [.fz (.tup (Tps A)), .fz (.tup (Tps B)), .fz (.tup (Ints r))] = some (_, [.fz (.tup (Tps A)), .fz (.tup (Tps B)), .fz (.tup (Ints r))])
      unfold oscl
      (apply Eq.trans; apply PL.stBin; apply Eq.trans; apply PL.stNary; apply Eq.trans; apply PL.stCons; apply Eq.trans; apply PL.stPk; rfl; rfl; apply Eq.trans; apply PL.stNil; rfl; rfl; rfl; exact f1; rfl; apply Eq.trans; apply PL.stNary; apply Eq.trans; apply PL.stCons; apply Eq.trans; apply PL.stPk; rfl; rfl; apply Eq.trans; apply PL.stNil; rfl; rfl; rfl; exact f2; rfl; rfl; rfl; rfl; rfl)
    · show some (PV.int (oscl r)) = some (PV.int (oscl (unI (.tup (Ints r)))))
      rw [unI_t]
  have e2 : opAdd (.lst [.int 0]) (.lst (Ints ((A ++ B).map oscl))) = some (.own (Ints (0 :: (A ++ B).map oscl))) := by
    refine opAdd_l ?_
    rw [Ints_len, List.length_map, List.length_append]
    show 1 + _ ≤ _
    omega
  have e3 := intsOf_Ints (0 :: (A ++ B).map oscl)
  have e4 : (0 :: (A ++ B).map oscl) ≠ [] := by simp
  unfold F__law_spread lfar
  generalize 0 :: (A ++ B).map oscl = L at *
  (apply Eq.trans; apply PL.stFn; apply Eq.trans; apply PL.stRet; apply Eq.trans; apply PL.stNary; apply Eq.trans; apply PL.stCons; apply Eq.trans; apply PL.stBin; apply Eq.trans; apply PL.stLst; apply Eq.trans; apply PL.stCons; apply Eq.trans; apply PL.stC; rfl; apply Eq.trans; apply PL.stNil; rfl; rfl; rfl; (first | assumption | decide | omega | simp [PL.lineN]); rfl; exact e1; rfl; rfl; exact e2; rfl; apply Eq.trans; apply PL.stNil; rfl; rfl; rfl; apply Eq.trans; apply PL.clMax2_l; exact e3; (first | assumption | decide | omega | simp [PL.lineN]); rfl; rfl; rfl; rfl; rfl)
end
end Wk24
set_option Elab.async false
set_option linter.all false
set_option maxRecDepth 100000
set_option maxHeartbeats 1000000
namespace Wk24
open PySem PL
section
variable {A B : List (List Int)} {w : Nat}
def ext (lo : Int) (n : Nat) (s : List Int) : List (List Int) := (List.range n).map fun i => s ++ [lo + (i : Nat)]
def hEx (s : List Int) (p : PV) : PV := .tup (Ints s ++ [p])
theorem map_hEx (lo : Int) (n : Nat) (s : List Int) : (rangeP lo n).map (hEx s) = Tps (ext lo n s) := by
  unfold rangeP ext Tps
  rw [List.map_map, List.map_map]
  refine List.map_congr_left fun i _ => ?_
  show PV.tup (Ints s ++ [PV.int (lo + (i : Nat))]) = .tup (Ints (s ++ [lo + (i : Nat)]))
  rw [Ints_app]; rfl
theorem rangeP_mem' {lo : Int} {n : Nat} {p : PV} (h : p ∈ rangeP lo n) : ∃ i : Int, p = .int i := by
  unfold rangeP at h
  obtain ⟨k, hk, rfl⟩ := List.mem_map.mp h
  exact ⟨_, rfl⟩
theorem L_ev1 {lo hi : Int} {n : Nat} (hb : -1000 ≤ lo ∧ lo ≤ 1000 ∧ -1000 ≤ hi ∧ hi ≤ 1000) (hn : (hi + 1 - lo).toNat = n) (s2 s3 s4 s5 : Sl) {s : List Int} (hs : s.length ≤ 100) (x7 : Sl) :
    F__law_every_l1 [.fz (.int lo), .fz (.int hi), s2, s3, s4, s5, .fz (.tup (Ints s)), x7] = some (.own (Tps (ext lo n s)), [.fz (.int lo), .fz (.int hi), s2, s3, s4, s5, .fz (.tup (Ints s)), x7]) := by
  rw [← map_hEx, ← hn]
  refine eLc_map (items := rangeP lo (hi + 1 - lo).toNat) (rs := []) (hEx s) (by (apply Eq.trans; apply PL.stRange2; apply Eq.trans; apply PL.stPk; rfl; rfl; apply Eq.trans; apply PL.stBin; apply Eq.trans; apply PL.stPk; rfl; rfl; apply Eq.trans; apply PL.stC; rfl; rfl; rfl; rfl; rfl; (first | assumption | decide | omega | simp [PL.lineN]); (first | assumption | decide | omega | simp [PL.lineN]); rfl)) (by rfl) (by decide) (by simp) fun z hz => ?_
  obtain ⟨i, rfl⟩ := rangeP_mem' hz
  have f1 := opAdd_t (xs := Ints s) (ys := [.int i]) (by rw [Ints_len]; show _ + 1 ≤ _; omega)
  refine ⟨[.fz (.int i)], .fz (.tup (Ints s ++ [.int i])), [.fz (.int i)], rfl, rfl, rfl, ?_, rfl⟩
  show eBin _ _ _ [.fz (.int lo), .fz (.int hi), s2, s3, s4, s5, .fz (.tup (Ints s)), .fz (.int i)] = some (_, [.fz (.int lo), .fz (.int hi), s2, s3, s4, s5, .fz (.tup (Ints s)), .fz (.int i)])
  (apply Eq.trans; apply PL.stBin; apply Eq.trans; apply PL.stPk; rfl; rfl; apply Eq.trans; apply PL.stTup; apply Eq.trans; apply PL.stCons; apply Eq.trans; apply PL.stVar; rfl; rfl; apply Eq.trans; apply PL.stNil; rfl; rfl; rfl; (first | assumption | decide | omega | simp [PL.lineN]); rfl; rfl; rfl; exact f1; rfl)
theorem ext_len (lo : Int) (n : Nat) (s : List Int) : (ext lo n s).length = n := by unfold ext; simp
theorem L_ev2 {lo hi : Int} {n : Nat} (hb : -1000 ≤ lo ∧ lo ≤ 1000 ∧ -1000 ≤ hi ∧ hi ≤ 1000) (hn : (hi + 1 - lo).toNat = n) (s2 s3 s4 : Sl) : ∀ (ss acc : List (List Int)) (x6 x7 : Sl), (∀ s ∈ ss, s.length ≤ 100) → acc.length + ss.length * n ≤ 100000 →
    ∃ y6 y7, forP (gNm 6) F__law_every_b1 (Tps ss) [.fz (.int lo), .fz (.int hi), s2, s3, s4, .own (Tps acc), x6, x7] = some (.nx, [.fz (.int lo), .fz (.int hi), s2, s3, s4, .own (Tps (acc ++ ss.flatMap (ext lo n))), y6, y7])
  | [], acc, x6, x7, _, _ => ⟨x6, x7, by rw [List.flatMap_nil, List.append_nil]; rfl⟩
  | s :: ss, acc, x6, x7, hs, hl => by
    rw [List.length_cons, Nat.succ_mul] at hl
    have f1 := L_ev1 hb hn s2 s3 s4 (.own (Tps acc)) (s := s) (hs s List.mem_cons_self) x7
    have f2 : (Tps acc).length + (Tps (ext lo n s)).length ≤ lineN := by
      rw [Tps_len, Tps_len, ext_len]
      unfold lineN
      omega
    have e1 : F__law_every_b1 [.fz (.int lo), .fz (.int hi), s2, s3, s4, .own (Tps acc), .fz (.tup (Ints s)), x7] = some (.nx, [.fz (.int lo), .fz (.int hi), s2, s3, s4, .own (Tps acc ++ Tps (ext lo n s)), .fz (.tup (Ints s)), x7]) := by
      unfold F__law_every_b1
      (apply Eq.trans; apply PL.stExpr; apply Eq.trans; apply PL.stExtend; rfl; exact f1; rfl; rfl; (first | assumption | decide | omega | simp [PL.lineN]); rfl; rfl)
    obtain ⟨y6, y7, e⟩ := L_ev2 hb hn s2 s3 s4 ss (acc ++ ext lo n s) (.fz (.tup (Ints s))) x7 (fun t ht => hs t (List.mem_cons_of_mem _ ht)) (by rw [List.length_append, ext_len]; omega)
    refine ⟨y6, y7, ?_⟩
    show forP _ _ (.tup (Ints s) :: Tps ss) _ = _
    rw [forP]
    show (F__law_every_b1 [.fz (.int lo), .fz (.int hi), s2, s3, s4, .own (Tps acc), .fz (.tup (Ints s)), x7]).bind _ = _
    rw [e1, Option.bind_some, Tps_app, List.flatMap_cons, ← List.append_assoc]
    exact e
theorem L_ev3 {lo hi : Int} {n : Nat} (hb : -1000 ≤ lo ∧ lo ≤ 1000 ∧ -1000 ≤ hi ∧ hi ≤ 1000) (hn : (hi + 1 - lo).toNat = n) (h40 : n ≤ 40) (s2 : Sl) : ∀ (items : List PV) (i : Nat) (s3 x4 x5 x6 x7 : Sl), i + items.length ≤ 3 → (s3 = .own (Tps (evr lo n i)) ∨ s3 = .fz (.lst (Tps (evr lo n i)))) →
    ∃ y3 y4 y5 y6 y7, forP (gNm 4) F__law_every_b2 items [.fz (.int lo), .fz (.int hi), s2, s3, x4, x5, x6, x7] = some (.nx, [.fz (.int lo), .fz (.int hi), s2, y3, y4, y5, y6, y7]) ∧ (y3 = .own (Tps (evr lo n (i + items.length))) ∨ y3 = .fz (.lst (Tps (evr lo n (i + items.length)))))
  | [], i, s3, x4, x5, x6, x7, _, h => ⟨_, _, _, _, _, rfl, h⟩
  | p :: ps, i, s3, x4, x5, x6, x7, hl, h => by
    rw [List.length_cons] at hl
    have hc : (evr lo n i).length * n ≤ 100000 := by
      rw [evr_count, ← Nat.pow_succ]
      have h1 : n ^ i.succ ≤ 40 ^ i.succ := Nat.pow_le_pow_left h40 _
      have h2 : 40 ^ i.succ ≤ 40 ^ 3 := Nat.pow_le_pow_right (by omega) (by omega)
      have : (40 : Nat) ^ 3 = 64000 := by decide
      omega
    obtain ⟨y6, y7, e⟩ := L_ev2 hb hn s2 (.fz (.lst (Tps (evr lo n i)))) (.fz p) (evr lo n i) [] x6 x7 (fun s hs => by rw [evr_len hs]; omega) (by simpa using hc)
    rw [List.nil_append] at e
    have e0 : (evr lo n i).flatMap (ext lo n) = evr lo n (i + 1) := rfl
    rw [e0] at e
    have e1 : F__law_every_b2 [.fz (.int lo), .fz (.int hi), s2, s3, .fz p, x5, x6, x7] = some (.nx, [.fz (.int lo), .fz (.int hi), s2, .fz (.lst (Tps (evr lo n (i + 1)))), .fz p, .fz (.lst (Tps (evr lo n (i + 1)))), y6, y7]) := by
      have e2 : F__law_every_f1 [.fz (.int lo), .fz (.int hi), s2, s3, .fz p, .own [], x6, x7] = some (.nx, [.fz (.int lo), .fz (.int hi), s2, .fz (.lst (Tps (evr lo n i))), .fz p, .own (Tps (evr lo n (i + 1))), y6, y7]) := by
        unfold F__law_every_f1 sFor
        have q : iSeq (eVar 3) [.fz (.int lo), .fz (.int hi), s2, s3, .fz p, .own [], x6, x7] = some (Tps (evr lo n i), [.fz (.lst (Tps (evr lo n i)))], [.fz (.int lo), .fz (.int hi), s2, .fz (.lst (Tps (evr lo n i))), .fz p, .own [], x6, x7]) := by
          rcases h with rfl | rfl <;> rfl
        rw [q, Option.bind_some]
        have e' : forP (gNm 6) F__law_every_b1 (Tps (evr lo n i)) [.fz (.int lo), .fz (.int hi), s2, .fz (.lst (Tps (evr lo n i))), .fz p, .own [], x6, x7] = _ := e
        dsimp only
        rw [e']
      clear e
      unfold F__law_every_b2
      (apply PL.stSeqN; apply Eq.trans; apply PL.stSet; apply Eq.trans; apply PL.stLst; apply Eq.trans; apply PL.stNil; rfl; rfl; (first | assumption | decide | omega | simp [PL.lineN]); rfl; rfl; rfl; apply PL.stSeqN; exact e2; apply Eq.trans; apply PL.stSet; apply Eq.trans; apply PL.stVarO; rfl; rfl; rfl; rfl)
    obtain ⟨z3, z4, z5, z6, z7, e2, h2⟩ := L_ev3 hb hn h40 s2 ps (i + 1) (.fz (.lst (Tps (evr lo n (i + 1))))) (.fz p) (.fz (.lst (Tps (evr lo n (i + 1))))) y6 y7 (by omega) (.inr rfl)
    refine ⟨z3, z4, z5, z6, z7, ?_, by rw [List.length_cons, show i + (ps.length + 1) = i + 1 + ps.length by omega]; exact h2⟩
    rw [forP]
    show (F__law_every_b2 [.fz (.int lo), .fz (.int hi), s2, s3, .fz p, x5, x6, x7]).bind _ = _
    rw [e1, Option.bind_some]
    exact e2
theorem S_every {lo hi : Int} {n m : Nat} (hb : -1000 ≤ lo ∧ lo ≤ 1000 ∧ -1000 ≤ hi ∧ hi ≤ 1000) (hn : (hi + 1 - lo).toNat = n) (h40 : n ≤ 40) (hm : m ≤ 3) : F__law_every [.fz (.int lo), .fz (.int hi), .fz (.int (m : Nat))] = some (.fz (.lst (Tps (evr lo n m))), [.fz (.int lo), .fz (.int hi), .fz (.int (m : Nat))]) := by
  obtain ⟨y3, y4, y5, y6, y7, e, h⟩ := L_ev3 hb hn h40 (.fz (.int (m : Nat))) (rangeP 0 m) 0 (.own [.tup []]) .un .un .un .un (by rw [rangeP_len]; omega) (.inl rfl)
  rw [rangeP_len, Nat.zero_add] at h
  have e2 : F__law_every_f2 [.fz (.int lo), .fz (.int hi), .fz (.int (m : Nat)), .own [.tup []], .un, .un, .un, .un] = some (.nx, [.fz (.int lo), .fz (.int hi), .fz (.int (m : Nat)), y3, y4, y5, y6, y7]) := by
    unfold F__law_every_f2
    (apply Eq.trans; apply PL.stFor; apply Eq.trans; apply PL.stRange1; apply Eq.trans; apply PL.stPk; rfl; rfl; exact (show _ = (((m) : Nat) : Int) from by first | rfl | omega); (first | assumption | omega); rfl; exact e; rfl)
  clear e
  unfold F__law_every
  rcases h with rfl | rfl <;> (first | (apply Eq.trans; apply PL.stFn; apply PL.stSeqN; apply Eq.trans; apply PL.stSet; apply Eq.trans; apply PL.stLst; apply Eq.trans; apply PL.stCons; apply Eq.trans; apply PL.stTup; apply Eq.trans; apply PL.stNil; rfl; rfl; (first | assumption | decide | omega | simp [PL.lineN]); rfl; apply Eq.trans; apply PL.stNil; rfl; rfl; rfl; (first | assumption | decide | omega | simp [PL.lineN]); rfl; rfl; rfl; apply PL.stSeqN; exact e2; apply Eq.trans; apply PL.stRet; apply Eq.trans; apply PL.stVarO; rfl; rfl; rfl; rfl; rfl) | (apply Eq.trans; apply PL.stFn; apply PL.stSeqN; apply Eq.trans; apply PL.stSet; apply Eq.trans; apply PL.stLst; apply Eq.trans; apply PL.stCons; apply Eq.trans; apply PL.stTup; apply Eq.trans; apply PL.stNil; rfl; rfl; (first | assumption | decide | omega | simp [PL.lineN]); rfl; apply Eq.trans; apply PL.stNil; rfl; rfl; rfl; (first | assumption | decide | omega | simp [PL.lineN]); rfl; rfl; rfl; apply PL.stSeqN; exact e2; apply Eq.trans; apply PL.stRet; apply Eq.trans; apply PL.stVar; rfl; rfl; rfl; rfl; rfl))
end
end Wk24
set_option Elab.async false
set_option linter.all false
set_option maxRecDepth 100000
set_option maxHeartbeats 1000000
namespace Wk24
open PySem PL
section
variable {A B : List (List Int)} {w : Nat}
def tst (A B : List (List Int)) (w : Nat) (r : List Int) : Bool := (nea A w (0 :: r) == 0 :: r) && (nea B w (0 :: r) == 0 :: r)
theorem S_has (HA : Ok A w) (HB : Ok B w) : F__law_has_common [.fz (.tup (Tps A)), .fz (.tup (Tps B))] = some (.fz (.bl (hasC A B w)), [.fz (.tup (Tps A)), .fz (.tup (Tps B))]) := by
  have a8 : A.length ≤ 8 := by have := HA.n3; omega
  have b8 : B.length ≤ 8 := by have := HB.n3; omega
  have w3 := HA.w3
  have w1 := HA.km.w1
  have w8 : w ≤ 8 := by omega
  obtain ⟨f0, f1⟩ := far_12 HA HB
  have e1 := S_lspread HA.km HB.km a8 b8
  have e2 := S_every (lo := 0 - lfar A B) (hi := lfar A B) (n := (lfar A B + 1 - (0 - lfar A B)).toNat) (m := w - 1) (by omega) rfl (by omega) (by omega)
  rw [show ((w - 1 : Nat) : Int) = (w : Int) - 1 by omega] at e2
  have e3 := HA.km.at0
  have e4 := HA.km.l0
  unfold hasC
  have hl : ∀ r ∈ evr (0 - lfar A B) (lfar A B + 1 - (0 - lfar A B)).toNat (w - 1), r.length = w - 1 := fun r hr => evr_len hr
  generalize evr (0 - lfar A B) (lfar A B + 1 - (0 - lfar A B)).toNat (w - 1) = E at *
  generalize lfar A B = fr at *
  obtain ⟨ρ', ⟨y3, hρ⟩, e5⟩ := forP_all (g := gNm 3) (body := F__law_has_common_b1) (v := .fz (.bl true)) (I := fun ρ => ∃ y3, ρ = [.fz (.tup (Tps A)), .fz (.tup (Tps B)), .fz (.int fr), y3]) (fun p => !tst A B w (unI p)) (Tps E) [.fz (.tup (Tps A)), .fz (.tup (Tps B)), .fz (.int fr), .un] ⟨_, rfl⟩ fun z hz ρ ⟨y3, hρ⟩ => by
    subst hρ
    obtain ⟨r, hr, rfl⟩ := Tps_mem hz
    have lr : (0 :: r : List Int).length = w := by rw [List.length_cons, hl r hr]; omega
    have g1 := S_is_made HA.km w8 lr
    have g2 := S_is_made HB.km w8 lr
    have g3 : opAdd (.tup [.int 0]) (.tup (Ints r)) = some (.fz (.tup (Ints (0 :: r)))) := opAdd_t (by rw [Ints_len, hl r hr]; show 1 + _ ≤ _; omega)
    refine ⟨[.fz (.tup (Tps A)), .fz (.tup (Tps B)), .fz (.int fr), .fz (.tup (Ints r))], [.fz (.tup (Tps A)), .fz (.tup (Tps B)), .fz (.int fr), .fz (.tup (Ints r))], rfl, ⟨_, rfl⟩, ?_⟩
    rw [unI_t]
    unfold tst F__law_has_common_b1
    generalize (0 :: r : List Int) = q at *
    cases c1 : (nea A w q == q) with
    | true =>
      rw [c1] at g1
      cases c2 : (nea B w q == q) with
      | true =>
        rw [c2] at g2
        show (_ : Option (Fl × List Sl)) = some (.rt (.fz (.bl true)), [.fz (.tup (Tps A)), .fz (.tup (Tps B)), .fz (.int fr), .fz (.tup (Ints r))])
        (apply Eq.trans; apply PL.stIfT; apply Eq.trans; apply PL.stTAndT; apply Eq.trans; apply PL.stOf; apply Eq.trans; apply PL.stCall; apply Eq.trans; apply PL.stCons; apply Eq.trans; apply PL.stVar; rfl; rfl; apply Eq.trans; apply PL.stCons; apply Eq.trans; apply PL.stBin; apply Eq.trans; apply PL.stTup; apply Eq.trans; apply PL.stCons; apply Eq.trans; apply PL.stC; rfl; apply Eq.trans; apply PL.stNil; rfl; rfl; rfl; (first | assumption | decide | omega | simp [PL.lineN]); rfl; apply Eq.trans; apply PL.stPk; rfl; rfl; rfl; rfl; exact g3; rfl; apply Eq.trans; apply PL.stNil; rfl; rfl; rfl; exact g1; rfl; rfl; exact rfl; apply Eq.trans; apply PL.stOf; apply Eq.trans; apply PL.stCall; apply Eq.trans; apply PL.stCons; apply Eq.trans; apply PL.stVar; rfl; rfl; apply Eq.trans; apply PL.stCons; apply Eq.trans; apply PL.stBin; apply Eq.trans; apply PL.stTup; apply Eq.trans; apply PL.stCons; apply Eq.trans; apply PL.stC; rfl; apply Eq.trans; apply PL.stNil; rfl; rfl; rfl; (first | assumption | decide | omega | simp [PL.lineN]); rfl; apply Eq.trans; apply PL.stPk; rfl; rfl; rfl; rfl; exact g3; rfl; apply Eq.trans; apply PL.stNil; rfl; rfl; rfl; exact g2; rfl; rfl; rfl; exact rfl; apply Eq.trans; apply PL.stRet; apply Eq.trans; apply PL.stC; rfl; rfl; rfl; rfl)
      | false =>
        rw [c2] at g2
        show (_ : Option (Fl × List Sl)) = some (.nx, [.fz (.tup (Tps A)), .fz (.tup (Tps B)), .fz (.int fr), .fz (.tup (Ints r))])
        (apply Eq.trans; apply PL.stIfN; apply Eq.trans; apply PL.stTAndT; apply Eq.trans; apply PL.stOf; apply Eq.trans; apply PL.stCall; apply Eq.trans; apply PL.stCons; apply Eq.trans; apply PL.stVar; rfl; rfl; apply Eq.trans; apply PL.stCons; apply Eq.trans; apply PL.stBin; apply Eq.trans; apply PL.stTup; apply Eq.trans; apply PL.stCons; apply Eq.trans; apply PL.stC; rfl; apply Eq.trans; apply PL.stNil; rfl; rfl; rfl; (first | assumption | decide | omega | simp [PL.lineN]); rfl; apply Eq.trans; apply PL.stPk; rfl; rfl; rfl; rfl; exact g3; rfl; apply Eq.trans; apply PL.stNil; rfl; rfl; rfl; exact g1; rfl; rfl; exact rfl; apply Eq.trans; apply PL.stOf; apply Eq.trans; apply PL.stCall; apply Eq.trans; apply PL.stCons; apply Eq.trans; apply PL.stVar; rfl; rfl; apply Eq.trans; apply PL.stCons; apply Eq.trans; apply PL.stBin; apply Eq.trans; apply PL.stTup; apply Eq.trans; apply PL.stCons; apply Eq.trans; apply PL.stC; rfl; apply Eq.trans; apply PL.stNil; rfl; rfl; rfl; (first | assumption | decide | omega | simp [PL.lineN]); rfl; apply Eq.trans; apply PL.stPk; rfl; rfl; rfl; rfl; exact g3; rfl; apply Eq.trans; apply PL.stNil; rfl; rfl; rfl; exact g2; rfl; rfl; rfl; exact rfl; apply Eq.trans; apply PL.stNilS; rfl; rfl)
    | false =>
      rw [c1] at g1
      show (_ : Option (Fl × List Sl)) = some (.nx, [.fz (.tup (Tps A)), .fz (.tup (Tps B)), .fz (.int fr), .fz (.tup (Ints r))])
      (apply Eq.trans; apply PL.stIfN; apply Eq.trans; apply PL.stTAndN; apply Eq.trans; apply PL.stOf; apply Eq.trans; apply PL.stCall; apply Eq.trans; apply PL.stCons; apply Eq.trans; apply PL.stVar; rfl; rfl; apply Eq.trans; apply PL.stCons; apply Eq.trans; apply PL.stBin; apply Eq.trans; apply PL.stTup; apply Eq.trans; apply PL.stCons; apply Eq.trans; apply PL.stC; rfl; apply Eq.trans; apply PL.stNil; rfl; rfl; rfl; (first | assumption | decide | omega | simp [PL.lineN]); rfl; apply Eq.trans; apply PL.stPk; rfl; rfl; rfl; rfl; exact g3; rfl; apply Eq.trans; apply PL.stNil; rfl; rfl; rfl; exact g1; rfl; rfl; exact rfl; rfl; exact rfl; apply Eq.trans; apply PL.stNilS; rfl; rfl)
  subst hρ
  have ea : (Tps E).all (fun p => !tst A B w (unI p)) = !E.any fun r => tst A B w r := by
    unfold Tps
    rw [List.all_map]
    induction E with
    | nil => rfl
    | cons r E ih =>
      rw [List.all_cons, List.any_cons]
      have ih' : (E.all ((fun p => !tst A B w (unI p)) ∘ fun r => PV.tup (Ints r))) = !E.any fun r => tst A B w r := by
        clear ih e5 e2
        induction E with
        | nil => rfl
        | cons s E ih =>
          rw [List.all_cons, List.any_cons, ih fun q hq => hl q (by rcases List.mem_cons.mp hq with z | z <;> simp [z])]
          show (!tst A B w (unI (.tup (Ints s))) && _) = _
          rw [unI_t]
          cases tst A B w s <;> rfl
      rw [ih']
      show (!tst A B w (unI (.tup (Ints r))) && _) = _
      rw [unI_t]
      cases tst A B w r <;> rfl
  rw [ea] at e5
  show (_ : Option (Vl × List Sl)) = some (.fz (.bl (E.any fun r => tst A B w r)), _)
  have e6 : F__law_has_common_f1 [.fz (.tup (Tps A)), .fz (.tup (Tps B)), .fz (.int fr), .un] = some (if (!E.any fun r => tst A B w r) = true then .nx else .rt (.fz (.bl true)), [.fz (.tup (Tps A)), .fz (.tup (Tps B)), .fz (.int fr), y3]) := by
    unfold F__law_has_common_f1
    generalize E.any (fun r => tst A B w r) = b at *
    (apply Eq.trans; apply PL.stFor; apply Eq.trans; apply PL.stISeq; apply Eq.trans; apply PL.stCall; apply Eq.trans; apply PL.stCons; apply Eq.trans; apply PL.stBin; apply Eq.trans; apply PL.stC; rfl; apply Eq.trans; apply PL.stPk; rfl; rfl; rfl; rfl; rfl; rfl; apply Eq.trans; apply PL.stCons; apply Eq.trans; apply PL.stVar; rfl; rfl; apply Eq.trans; apply PL.stCons; apply Eq.trans; apply PL.stBin; apply Eq.trans; apply PL.stNary; apply Eq.trans; apply PL.stCons; apply Eq.trans; apply PL.stBin; apply Eq.trans; apply PL.stPk; rfl; rfl; apply Eq.trans; apply PL.stC; rfl; rfl; rfl; apply Eq.trans; apply PL.opIx_t; exact e3; rfl; rfl; apply Eq.trans; apply PL.stNil; rfl; rfl; rfl; apply Eq.trans; apply PL.clLen_t; exact e4; rfl; rfl; apply Eq.trans; apply PL.stC; rfl; rfl; rfl; rfl; rfl; apply Eq.trans; apply PL.stNil; rfl; rfl; rfl; rfl; exact e2; rfl; rfl; rfl; exact e5; rfl)
  clear e5 ea
  unfold F__law_has_common
  cases hb : E.any (fun r => tst A B w r) with
  | true =>
    rw [hb] at e6
    replace e6 : F__law_has_common_f1 [.fz (.tup (Tps A)), .fz (.tup (Tps B)), .fz (.int fr), .un] = some (.rt (.fz (.bl true)), [.fz (.tup (Tps A)), .fz (.tup (Tps B)), .fz (.int fr), y3]) := e6
    (apply Eq.trans; apply PL.stFn; apply PL.stSeqN; apply Eq.trans; apply PL.stSet; apply Eq.trans; apply PL.stCall; apply Eq.trans; apply PL.stCons; apply Eq.trans; apply PL.stVar; rfl; rfl; apply Eq.trans; apply PL.stCons; apply Eq.trans; apply PL.stVar; rfl; rfl; apply Eq.trans; apply PL.stNil; rfl; rfl; rfl; exact e1; rfl; rfl; rfl; apply Eq.trans; apply PL.stSeqO; exact e6; rfl; rfl; rfl)
  | false =>
    rw [hb] at e6
    replace e6 : F__law_has_common_f1 [.fz (.tup (Tps A)), .fz (.tup (Tps B)), .fz (.int fr), .un] = some (.nx, [.fz (.tup (Tps A)), .fz (.tup (Tps B)), .fz (.int fr), y3]) := e6
    (apply Eq.trans; apply PL.stFn; apply PL.stSeqN; apply Eq.trans; apply PL.stSet; apply Eq.trans; apply PL.stCall; apply Eq.trans; apply PL.stCons; apply Eq.trans; apply PL.stVar; rfl; rfl; apply Eq.trans; apply PL.stCons; apply Eq.trans; apply PL.stVar; rfl; rfl; apply Eq.trans; apply PL.stNil; rfl; rfl; rfl; exact e1; rfl; rfl; rfl; apply PL.stSeqN; exact e6; apply Eq.trans; apply PL.stRet; apply Eq.trans; apply PL.stC; rfl; rfl; rfl; rfl)
end
theorem T_m1 {s : Sl} {w : Nat} (h : Hd s) (hw : w ≤ 3) (x2 x3 : Sl) : ∃ r s', F__law_makers_l1 [s, .fz (.int (w : Nat)), x2, x3] = some (.own (Ints r), [s', .fz (.int (w : Nat)), x2, x3]) ∧ Hd s' ∧ r.length = w ∧ ∀ x ∈ r, -3 ≤ x ∧ x ≤ 5 := by
  obtain ⟨qs, ρ', e, ⟨s', y3, hρ, hs'⟩, hl, hq⟩ := eLc_ex (vs := [3]) (w := iRange1 (ePk 1)) (g := gNm 3) (fe := eBin opSub (eCall F__law_draw (aCons (eBor 0) (aCons (eC (.int 9)) aNil))) (eC (.int 3))) (items := rangeP 0 w) (rs := []) (ρ := [s, .fz (.int (w : Nat)), x2, x3]) (ρ0 := [s, .fz (.int (w : Nat)), x2, x3])
    (I := fun ρ => ∃ s y3, ρ = [s, .fz (.int (w : Nat)), x2, y3] ∧ Hd s) (P := fun _ q => ∃ x : Int, q = .int x ∧ -3 ≤ x ∧ x ≤ 5)
    (by (apply Eq.trans; apply PL.stRange1; apply Eq.trans; apply PL.stPk; rfl; rfl; exact (show _ = (((w) : Nat) : Int) from by first | rfl | omega); (first | assumption | omega); rfl)) ⟨s, x3, rfl, h⟩ fun p hp ρ ⟨s, y3, hρ, hs⟩ => by
      subst hρ
      obtain ⟨k, hk, rfl⟩ := rangeP_mem hp
      obtain ⟨r, s', ed, hr1, hr2, hs'⟩ := ocall (ρ := [s, .fz (.int (w : Nat)), x2, .fz (.int k)]) (i := 0) (lim := 9) hs rfl (by omega)
      exact ⟨[s, .fz (.int (w : Nat)), x2, .fz (.int k)], [s', .fz (.int (w : Nat)), x2, .fz (.int k)], .fz (.int (r - 3)), .int (r - 3), by simp [gNm, wipeS], by (apply Eq.trans; apply PL.stBin; exact ed; apply Eq.trans; apply PL.stC; rfl; rfl; rfl; rfl; rfl), rfl, ⟨r - 3, rfl, by omega, by omega⟩, s', _, rfl, hs'⟩
  subst hρ
  rw [rangeP_len] at hl
  obtain ⟨r, hr, hr2⟩ := ex_list (f := PV.int) (P := fun x => -3 ≤ x ∧ x ≤ 5) (fun q hq' => mem_of (R := fun q => ∃ x : Int, q = .int x ∧ -3 ≤ x ∧ x ≤ 5) (by rw [rangeP_len]; exact hl) hq (fun p q h => h) q hq')
  subst hr
  rw [List.length_map] at hl
  refine ⟨r, s', ?_, hs', hl, hr2⟩
  unfold F__law_makers_l1
  rw [e]
  rfl
theorem T_m2 {s : Sl} {w : Nat} (h : Hd s) (h1 : 1 ≤ w) (hw : w ≤ 3) : ∃ A s', F__law_makers [s, .fz (.int (w : Nat))] = some (.fz (.tup (Tps A)), [s', .fz (.int (w : Nat))]) ∧ Hd s' ∧ Mk A w ∧ A.length ≤ 3 ∧ ∀ r ∈ A, ∀ x ∈ r, -3 ≤ x ∧ x ≤ 5 := by
  obtain ⟨n, s1, ed, hr1, hr2, hs1⟩ := ocall (ρ := [s, .fz (.int (w : Nat)), .un, .un]) (i := 0) (lim := 3) h rfl (by omega)
  have ed' : eCall F__law_draw (aCons (eBor 0) (aCons (eC (.int 3)) aNil)) [s, .fz (.int (w : Nat)), .un, .un] = some (.fz (.int n), [s1, .fz (.int (w : Nat)), .un, .un]) := ed
  obtain ⟨m, rfl⟩ : ∃ m : Nat, n = (m : Int) := ⟨n.toNat, by omega⟩
  clear ed
  obtain ⟨qs, ρ', e, ⟨s', y2, y3, hρ, hs'⟩, hl, hq⟩ := eLc_ex (vs := [2]) (w := iRange1 (eBin opAdd (eC (.int 1)) (eCall F__law_draw (aCons (eBor 0) (aCons (eC (.int 3)) aNil))))) (g := gNm 2) (fe := eNary clTuple (aCons F__law_makers_l1 aNil)) (items := rangeP 0 (1 + m)) (rs := []) (ρ := [s, .fz (.int (w : Nat)), .un, .un]) (ρ0 := [s1, .fz (.int (w : Nat)), .un, .un])
    (I := fun ρ => ∃ s y2 y3, ρ = [s, .fz (.int (w : Nat)), y2, y3] ∧ Hd s) (P := fun _ q => ∃ r : List Int, q = .tup (Ints r) ∧ (r.length = w ∧ ∀ x ∈ r, -3 ≤ x ∧ x ≤ 5))
    (by (apply Eq.trans; apply PL.stRange1; apply Eq.trans; apply PL.stBin; apply Eq.trans; apply PL.stC; rfl; exact ed'; rfl; rfl; rfl; rfl; exact (show _ = (((1 + m) : Nat) : Int) from by first | rfl | omega); (first | assumption | omega); rfl)) ⟨s1, .un, .un, rfl, hs1⟩ fun p hp ρ ⟨s, y2, y3, hρ, hs⟩ => by
      subst hρ
      obtain ⟨k, hk, rfl⟩ := rangeP_mem hp
      obtain ⟨r, s', er, hs', lr, br⟩ := T_m1 hs hw (.fz (.int k)) y3
      exact ⟨[s, .fz (.int (w : Nat)), .fz (.int k), y3], [s', .fz (.int (w : Nat)), .fz (.int k), y3], .fz (.tup (Ints r)), .tup (Ints r), by simp [gNm, wipeS], by (apply Eq.trans; apply PL.stNary; apply Eq.trans; apply PL.stCons; exact er; apply Eq.trans; apply PL.stNil; rfl; rfl; rfl; rfl; rfl), rfl, ⟨r, rfl, lr, br⟩, s', _, _, rfl, hs'⟩
  subst hρ
  rw [rangeP_len] at hl
  obtain ⟨A, hA, hA2⟩ := ex_list (f := fun r => PV.tup (Ints r)) (P := fun r => r.length = w ∧ ∀ x ∈ r, -3 ≤ x ∧ x ≤ 5) (fun q hq' => mem_of (R := fun q => ∃ r : List Int, q = .tup (Ints r) ∧ (r.length = w ∧ ∀ x ∈ r, -3 ≤ x ∧ x ≤ 5)) (by rw [rangeP_len]; exact hl) hq (fun p q h => h) q hq')
  subst hA
  rw [List.length_map] at hl
  refine ⟨A, s', ?_, hs', ⟨h1, by omega, fun r hr => (hA2 r hr).1⟩, by omega, fun r hr => (hA2 r hr).2⟩
  have e2 : F__law_makers_l2 [s, .fz (.int (w : Nat)), .un, .un] = some (.own (Tps A), [s', .fz (.int (w : Nat)), .un, y3]) := e
  clear e hq
  unfold F__law_makers
  (apply Eq.trans; apply PL.stFn; apply Eq.trans; apply PL.stRet; apply Eq.trans; apply PL.stNary; apply Eq.trans; apply PL.stCons; exact e2; apply Eq.trans; apply PL.stNil; rfl; rfl; rfl; rfl; rfl; rfl; rfl; rfl)
end Wk24
set_option Elab.async false
set_option linter.all false
set_option maxRecDepth 100000
set_option maxHeartbeats 1000000
namespace Wk24
open PySem PL
theorem cut_take {α : Type} (xs : List α) (j : Nat) : cutP xs none (some (j : Int)) = xs.take j := by
  unfold cutP
  rw [HT.sIx_none, HT.sIx_nat, List.drop_zero, Nat.sub_zero]
  by_cases h : j ≤ xs.length
  · rw [Nat.min_eq_left h]
  · rw [Nat.min_eq_right (by omega), List.take_length, List.take_of_length_le (by omega)]
section
variable {x0 x1 x2 x3 x4 x5 x6 x7 : Sl}
theorem call_makers {ρ : List Sl} {s : Sl} {w : Nat} (h : Hd s) (g : ρ[1]? = some s) (g2 : ρ[3]? = some (.fz (.int (w : Nat)))) (h1 : 1 ≤ w) (hw : w ≤ 3) : ∃ A s', eCall F__law_makers (aCons (eBor 1) (aCons (eVar 3) aNil)) ρ = some (.fz (.tup (Tps A)), ρ.set 1 s') ∧ Hd s' ∧ Mk A w ∧ A.length ≤ 3 ∧ ∀ r ∈ A, ∀ x ∈ r, -3 ≤ x ∧ x ≤ 5 := by
  obtain ⟨A, s', e, h2, h3, h4, h5⟩ := T_m2 h h1 hw
  obtain ⟨xs, rfl⟩ := h.own
  refine ⟨A, s', ?_, h2, h3, h4, h5⟩
  simp [eCall, aCons, aNil, eBor, eVar, g, g2, List.getElem?_set_ne (show (1 : Nat) ≠ 3 by decide), tmpOf, e, putB, Vl.sl]
theorem T_l1 {s : Sl} {A : List (List Int)} (h : Hd s) (h3 : A.length ≤ 3) : ∃ ss s', F_law_l1 [x0, s, x2, x3, .fz (.tup (Tps A)), x5, x6, x7] = some (.own (Ints ss), [x0, s', x2, x3, .fz (.tup (Tps A)), x5, x6, x7]) ∧ Hd s' ∧ ss.length = A.length ∧ ∀ x ∈ ss, 0 ≤ x ∧ x ≤ 4 := by
  obtain ⟨qs, ρ', e, ⟨s', y7, hρ, hs'⟩, hl, hq⟩ := eLc_ex (vs := [7]) (w := iSeq (eVar 4)) (g := gNm 7) (fe := eCall F__law_draw (aCons (eBor 1) (aCons (eC (.int 5)) aNil))) (items := Tps A) (rs := [.fz (.tup (Tps A))]) (ρ := [x0, s, x2, x3, .fz (.tup (Tps A)), x5, x6, x7]) (ρ0 := [x0, s, x2, x3, .fz (.tup (Tps A)), x5, x6, x7])
    (I := fun ρ => ∃ s y7, ρ = [x0, s, x2, x3, .fz (.tup (Tps A)), x5, x6, y7] ∧ Hd s) (P := fun _ q => ∃ x : Int, q = .int x ∧ 0 ≤ x ∧ x ≤ 4)
    (by (apply Eq.trans; apply PL.stISeq; apply Eq.trans; apply PL.stVar; rfl; rfl; rfl; rfl)) ⟨s, x7, rfl, h⟩ fun p hp ρ ⟨s, y7, hρ, hs⟩ => by
      subst hρ
      obtain ⟨r, s', ed, hr1, hr2, hs'⟩ := ocall (ρ := [x0, s, x2, x3, .fz (.tup (Tps A)), x5, x6, .fz p]) (i := 1) (lim := 5) hs rfl (by omega)
      exact ⟨[x0, s, x2, x3, .fz (.tup (Tps A)), x5, x6, .fz p], [x0, s', x2, x3, .fz (.tup (Tps A)), x5, x6, .fz p], .fz (.int r), .int r, by simp [gNm, wipeS], by (exact ed), rfl, ⟨r, rfl, by omega, by omega⟩, s', _, rfl, hs'⟩
  subst hρ
  rw [Tps_len] at hl
  obtain ⟨r, hr, hr2⟩ := ex_list (f := PV.int) (P := fun x => 0 ≤ x ∧ x ≤ 4) (fun q hq' => mem_of (R := fun q => ∃ x : Int, q = .int x ∧ 0 ≤ x ∧ x ≤ 4) (by rw [Tps_len]; exact hl) hq (fun p q h => h) q hq')
  subst hr
  rw [List.length_map] at hl
  refine ⟨r, s', ?_, hs', hl, hr2⟩
  unfold F_law_l1
  rw [e]
  rfl
/-- the first three statements: width, makers, others -/
theorem V1 {s : Sl} (h : Hd s) : ∃ (w : Nat) (s' : Sl), (sSet 3 (eBin opAdd (eC (.int 1)) (eCall F__law_draw (aCons (eBor 1) (aCons (eC (.int 3)) aNil))))) [x0, s, x2, x3, x4, x5, x6, x7] = some (.nx, [x0, s', x2, .fz (.int (w : Nat)), x4, x5, x6, x7]) ∧ Hd s' ∧ 1 ≤ w ∧ w ≤ 3 := by
  obtain ⟨r, s1, d1, a, b, h1⟩ := ocall (ρ := [x0, s, x2, x3, x4, x5, x6, x7]) (i := 1) (lim := 3) h rfl (by omega)
  obtain ⟨m, rfl⟩ : ∃ m : Nat, r = (m : Int) := ⟨r.toNat, by omega⟩
  refine ⟨1 + m, s1, ?_, h1, by omega, by omega⟩
  rw [show ((1 + m : Nat) : Int) = 1 + (m : Int) by omega]
  have d1' : eCall F__law_draw (aCons (eBor 1) (aCons (eC (.int 3)) aNil)) [x0, s, x2, x3, x4, x5, x6, x7] = some (.fz (.int m), [x0, s1, x2, x3, x4, x5, x6, x7]) := d1
  clear d1
  (apply Eq.trans; apply PL.stSet; apply Eq.trans; apply PL.stBin; apply Eq.trans; apply PL.stC; rfl; exact d1'; rfl; rfl; rfl; rfl; rfl; rfl)
theorem V2 {s : Sl} {w : Nat} (h : Hd s) (h1 : 1 ≤ w) (h3 : w ≤ 3) : ∃ (A B : List (List Int)) (s' : Sl), (sPar 4 5 (aCons (eCall F__law_makers (aCons (eBor 1) (aCons (eVar 3) aNil))) (aCons (eCall F__law_makers (aCons (eBor 1) (aCons (eVar 3) aNil))) aNil))) [x0, s, x2, .fz (.int (w : Nat)), x4, x5, x6, x7] = some (.nx, [x0, s', x2, .fz (.int (w : Nat)), .fz (.tup (Tps A)), .fz (.tup (Tps B)), x6, x7]) ∧ Hd s' ∧ Mk A w ∧ A.length ≤ 3 ∧ (∀ r ∈ A, ∀ x ∈ r, -3 ≤ x ∧ x ≤ 5) ∧ Mk B w ∧ B.length ≤ 3 ∧ (∀ r ∈ B, ∀ x ∈ r, -3 ≤ x ∧ x ≤ 5) := by
  obtain ⟨A, s1, e1, g1, g2, g3, g4⟩ := call_makers (ρ := [x0, s, x2, .fz (.int (w : Nat)), x4, x5, x6, x7]) h rfl rfl h1 h3
  have e1' : eCall F__law_makers (aCons (eBor 1) (aCons (eVar 3) aNil)) [x0, s, x2, .fz (.int (w : Nat)), x4, x5, x6, x7] = some (.fz (.tup (Tps A)), [x0, s1, x2, .fz (.int (w : Nat)), x4, x5, x6, x7]) := e1
  clear e1
  obtain ⟨B, s2, e2, k1, k2, k3, k4⟩ := call_makers (ρ := [x0, s1, x2, .fz (.int (w : Nat)), x4, x5, x6, x7]) g1 rfl rfl h1 h3
  have e2' : eCall F__law_makers (aCons (eBor 1) (aCons (eVar 3) aNil)) [x0, s1, x2, .fz (.int (w : Nat)), x4, x5, x6, x7] = some (.fz (.tup (Tps B)), [x0, s2, x2, .fz (.int (w : Nat)), x4, x5, x6, x7]) := e2
  clear e2
  refine ⟨A, B, s2, ?_, k1, g2, g3, g4, k2, k3, k4⟩
  (apply Eq.trans; apply PL.stPar; apply Eq.trans; apply PL.stCons; exact e1'; apply Eq.trans; apply PL.stCons; exact e2'; apply Eq.trans; apply PL.stNil; rfl; rfl; rfl; rfl; rfl; rfl)
theorem md_bd {A : List (List Int)} {w : Nat} {ss : List Int} (H : Mk A w) (hb : ∀ r ∈ A, ∀ x ∈ r, -3 ≤ x ∧ x ≤ 5) (hl : ss.length = A.length) (hs : ∀ x ∈ ss, 0 ≤ x ∧ x ≤ 4) : ∀ x ∈ md A ss w, -3 ≤ x ∧ x ≤ 9 := fun x hx => by
  unfold md at hx
  obtain ⟨j, hj, rfl⟩ := List.mem_map.mp hx
  have hj := List.mem_range.mp hj
  have hm := maxL_mem (mdj_ne H hl j)
  generalize maxL (mdj A ss j) = y at hm ⊢
  unfold mdj at hm
  obtain ⟨k, hk⟩ := List.mem_iff_getElem?.mp hm
  rw [List.getElem?_zipWith] at hk
  cases h1 : A[k]? with
  | none => rw [h1] at hk; simp at hk
  | some r =>
    cases h2 : ss[k]? with
    | none => rw [h1, h2] at hk; simp at hk
    | some t =>
      rw [h1, h2] at hk
      have hk : r.getD j 0 + t = y := by simpa using hk
      have hr := List.mem_of_getElem? h1
      have ht := hs t (List.mem_of_getElem? h2)
      have := hb r hr (r.getD j 0) (by rw [gd (by rw [H.ln r hr]; exact hj)]; exact List.getElem_mem _)
      omega
theorem V3 {s : Sl} {w : Nat} {A B : List (List Int)} (h : Hd s) (h3 : w ≤ 3) (a1 : Mk A w) (a2 : A.length ≤ 3) (a3 : ∀ r ∈ A, ∀ x ∈ r, -3 ≤ x ∧ x ≤ 5) (b1 : Mk B w) (b2 : B.length ≤ 3) (b3 : ∀ r ∈ B, ∀ x ∈ r, -3 ≤ x ∧ x ≤ 5) :
    ∃ (C : List (List Int)) (s' : Sl), (sIf (tOf (eBin opEq (eCall F__law_draw (aCons (eBor 1) (aCons (eC (.int 3)) aNil))) (eC (.int 0)))) (sSet 5 (eBin opAdd (eSl (ePk 5) oNone (oSome (eC (.int 2)))) (eTup (aCons (eCall F_made (aCons (eVar 4) (aCons (eNary clTuple (aCons F_law_l1 aNil)) aNil))) aNil)))) sNil) [x0, s, x2, .fz (.int (w : Nat)), .fz (.tup (Tps A)), .fz (.tup (Tps B)), x6, x7] = some (.nx, [x0, s', x2, .fz (.int (w : Nat)), .fz (.tup (Tps A)), .fz (.tup (Tps C)), x6, x7]) ∧ Hd s' ∧ Ok C w := by
  obtain ⟨r, s1, d1, a, b, h1⟩ := ocall (ρ := [x0, s, x2, .fz (.int (w : Nat)), .fz (.tup (Tps A)), .fz (.tup (Tps B)), x6, x7]) (i := 1) (lim := 3) h rfl (by omega)
  have d1' : eCall F__law_draw (aCons (eBor 1) (aCons (eC (.int 3)) aNil)) [x0, s, x2, .fz (.int (w : Nat)), .fz (.tup (Tps A)), .fz (.tup (Tps B)), x6, x7] = some (.fz (.int r), [x0, s1, x2, .fz (.int (w : Nat)), .fz (.tup (Tps A)), .fz (.tup (Tps B)), x6, x7]) := d1
  clear d1
  by_cases hr : r = 0
  · obtain ⟨ss, s2, e2, h2, l2, bs⟩ := T_l1 (x0 := x0) (x2 := x2) (x3 := .fz (.int (w : Nat))) (x5 := .fz (.tup (Tps B))) (x6 := x6) (x7 := x7) h1 a2
    have e3 := S_made a1 (by omega) (by omega) l2
    have hc : cutP (Tps B) none (some 2) = Tps (B.take 2) := by
      unfold Tps
      rw [cutP_map]
      rw [show (2 : Int) = ((2 : Nat) : Int) by rfl, cut_take]
    have e4 : opSl (.tup (Tps B)) none (some 2) = some (.fz (.tup (Tps (B.take 2)))) := by rw [← hc]; rfl
    have e5 : opAdd (.tup (Tps (B.take 2))) (.tup [.tup (Ints (md A ss w))]) = some (.fz (.tup (Tps (B.take 2 ++ [md A ss w])))) := by
      rw [← Tps_app]
      refine opAdd_t ?_
      rw [Tps_len, List.length_take]
      show _ + 1 ≤ _
      omega
    refine ⟨B.take 2 ++ [md A ss w], s2, ?_, h2, ⟨⟨a1.w1, by rw [List.length_append]; simp, fun r hr => ?_⟩, ?_, h3, fun r hr x hx => ?_⟩⟩
    · (apply Eq.trans; apply PL.stIfT; apply Eq.trans; apply PL.stOf; apply Eq.trans; apply PL.stBin; exact d1'; apply Eq.trans; apply PL.stC; rfl; rfl; rfl; apply Eq.trans; apply PL.opEq_ii; rfl; rfl; rfl; exact (decide_eq_true (by first | with_reducible assumption | rfl | omega | (simp only [*]; done))); apply Eq.trans; apply PL.stSet; apply Eq.trans; apply PL.stBin; apply Eq.trans; apply PL.stSl; apply Eq.trans; apply PL.stPk; rfl; rfl; apply Eq.trans; apply PL.stoN; rfl; apply Eq.trans; apply PL.stoS; apply Eq.trans; apply PL.stC; rfl; rfl; rfl; exact e4; rfl; apply Eq.trans; apply PL.stTup; apply Eq.trans; apply PL.stCons; apply Eq.trans; apply PL.stCall; apply Eq.trans; apply PL.stCons; apply Eq.trans; apply PL.stVar; rfl; rfl; apply Eq.trans; apply PL.stCons; apply Eq.trans; apply PL.stNary; apply Eq.trans; apply PL.stCons; exact e2; apply Eq.trans; apply PL.stNil; rfl; rfl; rfl; rfl; rfl; apply Eq.trans; apply PL.stNil; rfl; rfl; rfl; exact e3; rfl; apply Eq.trans; apply PL.stNil; rfl; rfl; rfl; (first | assumption | decide | omega | simp [PL.lineN]); rfl; rfl; rfl; exact e5; rfl; rfl; rfl; rfl)
    · rcases List.mem_append.mp hr with q | q
      · exact b1.ln r (List.take_subset _ _ q)
      · rw [List.mem_singleton.mp q]; exact md_len _ _ _
    · rw [List.length_append, List.length_take]
      show _ + 1 ≤ _
      omega
    · rcases List.mem_append.mp hr with q | q
      · have := b3 r (List.take_subset _ _ q) x hx
        omega
      · rw [List.mem_singleton.mp q] at hx
        exact md_bd a1 a3 l2 bs x hx
  · refine ⟨B, s1, ?_, h1, b1, b2, h3, fun r hr x hx => by have := b3 r hr x hx; omega⟩
    (apply Eq.trans; apply PL.stIfN; apply Eq.trans; apply PL.stOf; apply Eq.trans; apply PL.stBin; exact d1'; apply Eq.trans; apply PL.stC; rfl; rfl; rfl; apply Eq.trans; apply PL.opEq_ii; rfl; rfl; rfl; exact (decide_eq_false (by first | with_reducible assumption | rfl | omega | (simp only [*]; done))); apply Eq.trans; apply PL.stNilS; rfl; rfl)
end
end Wk24
set_option Elab.async false
set_option linter.all false
set_option maxRecDepth 100000
set_option maxHeartbeats 1000000
namespace Wk24
open PySem PL
section
variable {x0 x1 x2 x3 x4 x5 x6 x7 : Sl} {A B : List (List Int)} {w : Nat}
theorem cmn_yes (HA : Ok A w) (HB : Ok B w) {c : List Int} (a : In A w c) (b : In B w c) : ∃ r, cmn A B w = some (some r) ∧ In A w r ∧ In B w r := by
  rcases cmn_spec HA HB with h | ⟨_, h⟩
  · exact h
  · exact absurd b (h c a)
theorem has_yes (HA : Ok A w) (HB : Ok B w) {c : List Int} (a : In A w c) (b : In B w c) : hasC A B w = true := (hasC_iff HA HB).mpr ⟨c, a, b⟩
theorem has_no (HA : Ok A w) (HB : Ok B w) (h : ∀ c, In A w c → ¬ In B w c) : hasC A B w = false := by
  cases e : hasC A B w with
  | false => rfl
  | true =>
    obtain ⟨c, a, b⟩ := (hasC_iff HA HB).mp e
    exact absurd b (h c a)
theorem Ok.take (HA : Ok A w) : Ok (A.take 1) w ∧ A.getD 0 [] ∈ A.take 1 := by
  have n1 := HA.km.n1
  refine ⟨⟨⟨HA.km.w1, by rw [List.length_take]; omega, fun r hr => HA.km.ln r (List.take_subset _ _ hr)⟩, by rw [List.length_take]; omega, HA.w3, fun r hr => HA.bd r (List.take_subset _ _ hr)⟩, ?_⟩
  match A, n1 with
  | r :: A, _ => simp
theorem tail (HA : Ok A w) (s v : Sl) (C : Sl) : (sIf (tOrF (tOf (eBin opIs (eCall F_common_row (aCons (eVar 4) (aCons (eVar 4) aNil))) (eC .non))) (tOf (eBin opIs (eCall F_common_row (aCons (eVar 4) (aCons (eSl (ePk 4) oNone (oSome (eC (.int 1)))) aNil))) (eC .non)))) (sRet (eC (.bl false))) sNil) [x0, s, x2, .fz (.int (w : Nat)), .fz (.tup (Tps A)), C, v, x7] = some (.nx, [x0, s, x2, .fz (.int (w : Nat)), .fz (.tup (Tps A)), C, v, x7]) := by
  have i0 := In.self HA.km HA.hd
  obtain ⟨r, e1, _⟩ := cmn_yes HA HA i0 i0
  obtain ⟨k1, k2⟩ := HA.take
  obtain ⟨q, e2, _⟩ := cmn_yes HA k1 i0 (In.self k1.km k2)
  have f1 : F_common_row [.fz (.tup (Tps A)), .fz (.tup (Tps A))] = some (.fz (.tup (Ints r)), [.fz (.tup (Tps A)), .fz (.tup (Tps A))]) := S_common_row HA HA e1
  have f2 : F_common_row [.fz (.tup (Tps A)), .fz (.tup (Tps (A.take 1)))] = some (.fz (.tup (Ints q)), [.fz (.tup (Tps A)), .fz (.tup (Tps (A.take 1)))]) := S_common_row HA k1 e2
  have hc : cutP (Tps A) none (some 1) = Tps (A.take 1) := by
    unfold Tps
    rw [cutP_map]
    rw [show (1 : Int) = ((1 : Nat) : Int) by rfl, cut_take]
  have f3 : opSl (.tup (Tps A)) none (some 1) = some (.fz (.tup (Tps (A.take 1)))) := by rw [← hc]; rfl
  clear e1 e2
  (apply Eq.trans; apply PL.stIfN; apply Eq.trans; apply PL.stTOrN; apply Eq.trans; apply PL.stOf; apply Eq.trans; apply PL.stBin; apply Eq.trans; apply PL.stCall; apply Eq.trans; apply PL.stCons; apply Eq.trans; apply PL.stVar; rfl; rfl; apply Eq.trans; apply PL.stCons; apply Eq.trans; apply PL.stVar; rfl; rfl; apply Eq.trans; apply PL.stNil; rfl; rfl; rfl; exact f1; rfl; apply Eq.trans; apply PL.stC; rfl; rfl; rfl; rfl; rfl; rfl; exact rfl; apply Eq.trans; apply PL.stOf; apply Eq.trans; apply PL.stBin; apply Eq.trans; apply PL.stCall; apply Eq.trans; apply PL.stCons; apply Eq.trans; apply PL.stVar; rfl; rfl; apply Eq.trans; apply PL.stCons; apply Eq.trans; apply PL.stSl; apply Eq.trans; apply PL.stPk; rfl; rfl; apply Eq.trans; apply PL.stoN; rfl; apply Eq.trans; apply PL.stoS; apply Eq.trans; apply PL.stC; rfl; rfl; rfl; exact f3; rfl; apply Eq.trans; apply PL.stNil; rfl; rfl; rfl; exact f2; rfl; apply Eq.trans; apply PL.stC; rfl; rfl; rfl; rfl; rfl; rfl; rfl; exact rfl; apply Eq.trans; apply PL.stNilS; rfl; rfl)
theorem V4 (HA : Ok A w) (HC : Ok B w) (s3 : Sl) : ∃ v, (sSeq (sSet 6 (eCall F_common_row (aCons (eVar 4) (aCons (eVar 5) aNil)))) (sSeq (sIf (tOf (eBin opNe (eBin opIsNot (ePk 6) (eC .non)) (eCall F__law_has_common (aCons (eVar 4) (aCons (eVar 5) aNil))))) (sRet (eC (.bl false))) sNil) (sSeq (sIf (tOf (eBin opNe (eBin opIs (eCall F_common_row (aCons (eVar 5) (aCons (eVar 4) aNil))) (eC .non)) (eBin opIs (ePk 6) (eC .non)))) (sRet (eC (.bl false))) sNil) (sSeq (sIf (tOf (eBin opIsNot (ePk 6) (eC .non))) (sSeq (sIf (tOrF (tNotF (tOf (eCall F__law_is_made (aCons (eVar 4) (aCons (eNary clTuple (aCons (ePk 6) aNil)) aNil))))) (tNotF (tOf (eCall F__law_is_made (aCons (eVar 5) (aCons (eNary clTuple (aCons (ePk 6) aNil)) aNil)))))) (sRet (eC (.bl false))) sNil) (sIf (tOrF (tNotF (tOf (eCall F_is_in_span (aCons (eVar 4) (aCons (eVar 6) aNil))))) (tNotF (tOf (eCall F_is_in_span (aCons (eVar 5) (aCons (eVar 6) aNil)))))) (sRet (eC (.bl false))) sNil)) sNil) (sIf (tOrF (tOf (eBin opIs (eCall F_common_row (aCons (eVar 4) (aCons (eVar 4) aNil))) (eC .non))) (tOf (eBin opIs (eCall F_common_row (aCons (eVar 4) (aCons (eSl (ePk 4) oNone (oSome (eC (.int 1)))) aNil))) (eC .non)))) (sRet (eC (.bl false))) sNil))))) [x0, s3, x2, .fz (.int (w : Nat)), .fz (.tup (Tps A)), .fz (.tup (Tps B)), x6, x7] = some (.nx, [x0, s3, x2, .fz (.int (w : Nat)), .fz (.tup (Tps A)), .fz (.tup (Tps B)), v, x7]) := by
  have w8 : w ≤ 8 := by have := HA.w3; omega
  rcases cmn_spec HA HC with ⟨r, c1, ra, rc⟩ | ⟨c1, no⟩
  · obtain ⟨q, c2, qc, qa⟩ := cmn_yes HC HA rc ra
    have f1 : F_common_row [.fz (.tup (Tps A)), .fz (.tup (Tps B))] = some (.fz (.tup (Ints r)), [.fz (.tup (Tps A)), .fz (.tup (Tps B))]) := S_common_row HA HC c1
    have f2 : F_common_row [.fz (.tup (Tps B)), .fz (.tup (Tps A))] = some (.fz (.tup (Ints q)), [.fz (.tup (Tps B)), .fz (.tup (Tps A))]) := S_common_row HC HA c2
    have f3 := S_has HA HC
    rw [has_yes HA HC ra rc] at f3
    have f4 := S_is_made HA.km w8 ra.1
    have f5 := S_is_made HC.km w8 rc.1
    have f6 := S_is_in_span HA.km (by have := HA.n3; omega) w8 ra.1
    have f7 := S_is_in_span HC.km (by have := HC.n3; omega) w8 rc.1
    have t1 : (nea A w r == r) = true := beq_iff_eq.mpr ra.2
    have t2 : (nea B w r == r) = true := beq_iff_eq.mpr rc.2
    rw [t1] at f4 f6
    rw [t2] at f5 f7
    have f8 := tail (x0 := x0) (x2 := x2) (x7 := x7) HA s3 (.fz (.tup (Ints r))) (.fz (.tup (Tps B)))
    have f9 : opNe (.bl true) (.bl true) = some (.fz (.bl false)) := opNe_bb _ _
    have fa : opNe (.bl false) (.bl false) = some (.fz (.bl false)) := opNe_bb _ _
    clear c1 c2 t1 t2
    refine ⟨.fz (.tup (Ints r)), ?_⟩
    have u1 : (sSet 6 (eCall F_common_row (aCons (eVar 4) (aCons (eVar 5) aNil)))) [x0, s3, x2, .fz (.int (w : Nat)), .fz (.tup (Tps A)), .fz (.tup (Tps B)), x6, x7] = some (.nx, [x0, s3, x2, .fz (.int (w : Nat)), .fz (.tup (Tps A)), .fz (.tup (Tps B)), .fz (.tup (Ints r)), x7]) := by (apply Eq.trans; apply PL.stSet; apply Eq.trans; apply PL.stCall; apply Eq.trans; apply PL.stCons; apply Eq.trans; apply PL.stVar; rfl; rfl; apply Eq.trans; apply PL.stCons; apply Eq.trans; apply PL.stVar; rfl; rfl; apply Eq.trans; apply PL.stNil; rfl; rfl; rfl; exact f1; rfl; rfl; rfl)
    have u2 : (sIf (tOf (eBin opNe (eBin opIsNot (ePk 6) (eC .non)) (eCall F__law_has_common (aCons (eVar 4) (aCons (eVar 5) aNil))))) (sRet (eC (.bl false))) sNil) [x0, s3, x2, .fz (.int (w : Nat)), .fz (.tup (Tps A)), .fz (.tup (Tps B)), .fz (.tup (Ints r)), x7] = some (.nx, [x0, s3, x2, .fz (.int (w : Nat)), .fz (.tup (Tps A)), .fz (.tup (Tps B)), .fz (.tup (Ints r)), x7]) := by (apply Eq.trans; apply PL.stIfN; apply Eq.trans; apply PL.stOf; apply Eq.trans; apply PL.stBin; apply Eq.trans; apply PL.stBin; apply Eq.trans; apply PL.stPk; rfl; rfl; apply Eq.trans; apply PL.stC; rfl; rfl; rfl; rfl; rfl; apply Eq.trans; apply PL.stCall; apply Eq.trans; apply PL.stCons; apply Eq.trans; apply PL.stVar; rfl; rfl; apply Eq.trans; apply PL.stCons; apply Eq.trans; apply PL.stVar; rfl; rfl; apply Eq.trans; apply PL.stNil; rfl; rfl; rfl; exact f3; rfl; rfl; rfl; rfl; rfl; rfl; exact (PL.not_f rfl); apply Eq.trans; apply PL.stNilS; rfl; rfl)
    have u3 : (sIf (tOf (eBin opNe (eBin opIs (eCall F_common_row (aCons (eVar 5) (aCons (eVar 4) aNil))) (eC .non)) (eBin opIs (ePk 6) (eC .non)))) (sRet (eC (.bl false))) sNil) [x0, s3, x2, .fz (.int (w : Nat)), .fz (.tup (Tps A)), .fz (.tup (Tps B)), .fz (.tup (Ints r)), x7] = some (.nx, [x0, s3, x2, .fz (.int (w : Nat)), .fz (.tup (Tps A)), .fz (.tup (Tps B)), .fz (.tup (Ints r)), x7]) := by (apply Eq.trans; apply PL.stIfN; apply Eq.trans; apply PL.stOf; apply Eq.trans; apply PL.stBin; apply Eq.trans; apply PL.stBin; apply Eq.trans; apply PL.stCall; apply Eq.trans; apply PL.stCons; apply Eq.trans; apply PL.stVar; rfl; rfl; apply Eq.trans; apply PL.stCons; apply Eq.trans; apply PL.stVar; rfl; rfl; apply Eq.trans; apply PL.stNil; rfl; rfl; rfl; exact f2; rfl; apply Eq.trans; apply PL.stC; rfl; rfl; rfl; rfl; rfl; apply Eq.trans; apply PL.stBin; apply Eq.trans; apply PL.stPk; rfl; rfl; apply Eq.trans; apply PL.stC; rfl; rfl; rfl; rfl; rfl; rfl; rfl; rfl; rfl; rfl; exact (PL.not_f rfl); apply Eq.trans; apply PL.stNilS; rfl; rfl)
    have u4 : (sIf (tOf (eBin opIsNot (ePk 6) (eC .non))) (sSeq (sIf (tOrF (tNotF (tOf (eCall F__law_is_made (aCons (eVar 4) (aCons (eNary clTuple (aCons (ePk 6) aNil)) aNil))))) (tNotF (tOf (eCall F__law_is_made (aCons (eVar 5) (aCons (eNary clTuple (aCons (ePk 6) aNil)) aNil)))))) (sRet (eC (.bl false))) sNil) (sIf (tOrF (tNotF (tOf (eCall F_is_in_span (aCons (eVar 4) (aCons (eVar 6) aNil))))) (tNotF (tOf (eCall F_is_in_span (aCons (eVar 5) (aCons (eVar 6) aNil)))))) (sRet (eC (.bl false))) sNil)) sNil) [x0, s3, x2, .fz (.int (w : Nat)), .fz (.tup (Tps A)), .fz (.tup (Tps B)), .fz (.tup (Ints r)), x7] = some (.nx, [x0, s3, x2, .fz (.int (w : Nat)), .fz (.tup (Tps A)), .fz (.tup (Tps B)), .fz (.tup (Ints r)), x7]) := by (apply Eq.trans; apply PL.stIfT; apply Eq.trans; apply PL.stOf; apply Eq.trans; apply PL.stBin; apply Eq.trans; apply PL.stPk; rfl; rfl; apply Eq.trans; apply PL.stC; rfl; rfl; rfl; rfl; rfl; rfl; exact (PL.not_t rfl); apply PL.stSeqN; apply Eq.trans; apply PL.stIfN; apply Eq.trans; apply PL.stTOrN; apply Eq.trans; apply PL.stNot; apply Eq.trans; apply PL.stOf; apply Eq.trans; apply PL.stCall; apply Eq.trans; apply PL.stCons; apply Eq.trans; apply PL.stVar; rfl; rfl; apply Eq.trans; apply PL.stCons; apply Eq.trans; apply PL.stNary; apply Eq.trans; apply PL.stCons; apply Eq.trans; apply PL.stPk; rfl; rfl; apply Eq.trans; apply PL.stNil; rfl; rfl; rfl; rfl; rfl; apply Eq.trans; apply PL.stNil; rfl; rfl; rfl; exact f4; rfl; rfl; rfl; exact (PL.not_f rfl); apply Eq.trans; apply PL.stNot; apply Eq.trans; apply PL.stOf; apply Eq.trans; apply PL.stCall; apply Eq.trans; apply PL.stCons; apply Eq.trans; apply PL.stVar; rfl; rfl; apply Eq.trans; apply PL.stCons; apply Eq.trans; apply PL.stNary; apply Eq.trans; apply PL.stCons; apply Eq.trans; apply PL.stPk; rfl; rfl; apply Eq.trans; apply PL.stNil; rfl; rfl; rfl; rfl; rfl; apply Eq.trans; apply PL.stNil; rfl; rfl; rfl; exact f5; rfl; rfl; rfl; rfl; exact (PL.not_f rfl); apply Eq.trans; apply PL.stNilS; rfl; rfl; apply Eq.trans; apply PL.stIfN; apply Eq.trans; apply PL.stTOrN; apply Eq.trans; apply PL.stNot; apply Eq.trans; apply PL.stOf; apply Eq.trans; apply PL.stCall; apply Eq.trans; apply PL.stCons; apply Eq.trans; apply PL.stVar; rfl; rfl; apply Eq.trans; apply PL.stCons; apply Eq.trans; apply PL.stVar; rfl; rfl; apply Eq.trans; apply PL.stNil; rfl; rfl; rfl; exact f6; rfl; rfl; rfl; exact (PL.not_f rfl); apply Eq.trans; apply PL.stNot; apply Eq.trans; apply PL.stOf; apply Eq.trans; apply PL.stCall; apply Eq.trans; apply PL.stCons; apply Eq.trans; apply PL.stVar; rfl; rfl; apply Eq.trans; apply PL.stCons; apply Eq.trans; apply PL.stVar; rfl; rfl; apply Eq.trans; apply PL.stNil; rfl; rfl; rfl; exact f7; rfl; rfl; rfl; rfl; exact (PL.not_f rfl); apply Eq.trans; apply PL.stNilS; rfl; rfl; rfl)
    rw [seq_nx u1, seq_nx u2, seq_nx u3, seq_nx u4, f8]
  · have c2 : cmn B A w = some none := by
      rcases cmn_spec HC HA with ⟨q, _, qc, qa⟩ | ⟨z, _⟩
      · exact absurd qc (no q qa)
      · exact z
    have f1 : F_common_row [.fz (.tup (Tps A)), .fz (.tup (Tps B))] = some (.fz .non, [.fz (.tup (Tps A)), .fz (.tup (Tps B))]) := S_common_row HA HC c1
    have f2 : F_common_row [.fz (.tup (Tps B)), .fz (.tup (Tps A))] = some (.fz .non, [.fz (.tup (Tps B)), .fz (.tup (Tps A))]) := S_common_row HC HA c2
    have f3 := S_has HA HC
    rw [has_no HA HC no] at f3
    have f8 := tail (x0 := x0) (x2 := x2) (x7 := x7) HA s3 (.fz .non) (.fz (.tup (Tps B)))
    have f9 : opNe (.bl true) (.bl true) = some (.fz (.bl false)) := opNe_bb _ _
    have fa : opNe (.bl false) (.bl false) = some (.fz (.bl false)) := opNe_bb _ _
    clear c1 c2 no
    refine ⟨.fz .non, ?_⟩
    have u1 : (sSet 6 (eCall F_common_row (aCons (eVar 4) (aCons (eVar 5) aNil)))) [x0, s3, x2, .fz (.int (w : Nat)), .fz (.tup (Tps A)), .fz (.tup (Tps B)), x6, x7] = some (.nx, [x0, s3, x2, .fz (.int (w : Nat)), .fz (.tup (Tps A)), .fz (.tup (Tps B)), .fz .non, x7]) := by (apply Eq.trans; apply PL.stSet; apply Eq.trans; apply PL.stCall; apply Eq.trans; apply PL.stCons; apply Eq.trans; apply PL.stVar; rfl; rfl; apply Eq.trans; apply PL.stCons; apply Eq.trans; apply PL.stVar; rfl; rfl; apply Eq.trans; apply PL.stNil; rfl; rfl; rfl; exact f1; rfl; rfl; rfl)
    have u2 : (sIf (tOf (eBin opNe (eBin opIsNot (ePk 6) (eC .non)) (eCall F__law_has_common (aCons (eVar 4) (aCons (eVar 5) aNil))))) (sRet (eC (.bl false))) sNil) [x0, s3, x2, .fz (.int (w : Nat)), .fz (.tup (Tps A)), .fz (.tup (Tps B)), .fz .non, x7] = some (.nx, [x0, s3, x2, .fz (.int (w : Nat)), .fz (.tup (Tps A)), .fz (.tup (Tps B)), .fz .non, x7]) := by (apply Eq.trans; apply PL.stIfN; apply Eq.trans; apply PL.stOf; apply Eq.trans; apply PL.stBin; apply Eq.trans; apply PL.stBin; apply Eq.trans; apply PL.stPk; rfl; rfl; apply Eq.trans; apply PL.stC; rfl; rfl; rfl; rfl; rfl; apply Eq.trans; apply PL.stCall; apply Eq.trans; apply PL.stCons; apply Eq.trans; apply PL.stVar; rfl; rfl; apply Eq.trans; apply PL.stCons; apply Eq.trans; apply PL.stVar; rfl; rfl; apply Eq.trans; apply PL.stNil; rfl; rfl; rfl; exact f3; rfl; rfl; rfl; rfl; rfl; rfl; exact (PL.not_f rfl); apply Eq.trans; apply PL.stNilS; rfl; rfl)
    have u3 : (sIf (tOf (eBin opNe (eBin opIs (eCall F_common_row (aCons (eVar 5) (aCons (eVar 4) aNil))) (eC .non)) (eBin opIs (ePk 6) (eC .non)))) (sRet (eC (.bl false))) sNil) [x0, s3, x2, .fz (.int (w : Nat)), .fz (.tup (Tps A)), .fz (.tup (Tps B)), .fz .non, x7] = some (.nx, [x0, s3, x2, .fz (.int (w : Nat)), .fz (.tup (Tps A)), .fz (.tup (Tps B)), .fz .non, x7]) := by (apply Eq.trans; apply PL.stIfN; apply Eq.trans; apply PL.stOf; apply Eq.trans; apply PL.stBin; apply Eq.trans; apply PL.stBin; apply Eq.trans; apply PL.stCall; apply Eq.trans; apply PL.stCons; apply Eq.trans; apply PL.stVar; rfl; rfl; apply Eq.trans; apply PL.stCons; apply Eq.trans; apply PL.stVar; rfl; rfl; apply Eq.trans; apply PL.stNil; rfl; rfl; rfl; exact f2; rfl; apply Eq.trans; apply PL.stC; rfl; rfl; rfl; rfl; rfl; apply Eq.trans; apply PL.stBin; apply Eq.trans; apply PL.stPk; rfl; rfl; apply Eq.trans; apply PL.stC; rfl; rfl; rfl; rfl; rfl; rfl; rfl; rfl; rfl; rfl; exact (PL.not_f rfl); apply Eq.trans; apply PL.stNilS; rfl; rfl)
    have u4 : (sIf (tOf (eBin opIsNot (ePk 6) (eC .non))) (sSeq (sIf (tOrF (tNotF (tOf (eCall F__law_is_made (aCons (eVar 4) (aCons (eNary clTuple (aCons (ePk 6) aNil)) aNil))))) (tNotF (tOf (eCall F__law_is_made (aCons (eVar 5) (aCons (eNary clTuple (aCons (ePk 6) aNil)) aNil)))))) (sRet (eC (.bl false))) sNil) (sIf (tOrF (tNotF (tOf (eCall F_is_in_span (aCons (eVar 4) (aCons (eVar 6) aNil))))) (tNotF (tOf (eCall F_is_in_span (aCons (eVar 5) (aCons (eVar 6) aNil)))))) (sRet (eC (.bl false))) sNil)) sNil) [x0, s3, x2, .fz (.int (w : Nat)), .fz (.tup (Tps A)), .fz (.tup (Tps B)), .fz .non, x7] = some (.nx, [x0, s3, x2, .fz (.int (w : Nat)), .fz (.tup (Tps A)), .fz (.tup (Tps B)), .fz .non, x7]) := by (apply Eq.trans; apply PL.stIfN; apply Eq.trans; apply PL.stOf; apply Eq.trans; apply PL.stBin; apply Eq.trans; apply PL.stPk; rfl; rfl; apply Eq.trans; apply PL.stC; rfl; rfl; rfl; rfl; rfl; rfl; exact (PL.not_f rfl); apply Eq.trans; apply PL.stNilS; rfl; rfl)
    rw [seq_nx u1, seq_nx u2, seq_nx u3, seq_nx u4, f8]
/-- one turn -/
theorem turn {s : Sl} (h : Hd s) : ∃ s' ys, F_law_b1 [x0, s, x2, x3, x4, x5, x6, x7] = some (.nx, x0 :: s' :: ys) ∧ Hd s' ∧ ys.length = 6 := by
  obtain ⟨w, s1, e1, h1, w1, w3⟩ := V1 (x0 := x0) (x2 := x2) (x3 := x3) (x4 := x4) (x5 := x5) (x6 := x6) (x7 := x7) h
  obtain ⟨A, B, s2, e2, h2, a1, a2, a3, b1, b2, b3⟩ := V2 (x0 := x0) (x2 := x2) (x4 := x4) (x5 := x5) (x6 := x6) (x7 := x7) h1 w1 w3
  obtain ⟨C, s3, e3, h3, HC⟩ := V3 (x0 := x0) (x2 := x2) (x6 := x6) (x7 := x7) h2 w3 a1 a2 a3 b1 b2 b3
  have HA : Ok A w := ⟨a1, a2, w3, fun r hr x hx => by have := a3 r hr x hx; omega⟩
  obtain ⟨v, e4⟩ := V4 (x0 := x0) (x2 := x2) (x6 := x6) (x7 := x7) HA HC s3
  refine ⟨s3, [x2, .fz (.int (w : Nat)), .fz (.tup (Tps A)), .fz (.tup (Tps C)), v, x7], ?_, h3, rfl⟩
  unfold F_law_b1
  rw [seq_nx e1, seq_nx e2, seq_nx e3, e4]
end
/-- THE PLAIN LAW -/
theorem law_true (ns : List Int) : ∃ as', F_law [.fz (.scr (Ints ns))] = some (.fz (.bl true), as') := by
  obtain ⟨v, ev, hv⟩ := ohand ns
  obtain ⟨ρ', e, s, xs, hρ, hs, hx⟩ := forP_ex (g := gNm 2) (body := F_law_b1) (I := fun ρ k => ∃ s xs, ρ = .fz (.scr (Ints ns)) :: s :: xs ∧ Hd s ∧ xs.length = 6) (rangeP 0 4) 0 (.fz (.scr (Ints ns)) :: v.sl :: List.replicate 6 .un) ⟨_, _, rfl, hv, rfl⟩ fun j p ρ hj ⟨s, xs, hρ, hs, hx⟩ => by
    subst hρ
    match xs, hx with
    | [x2, x3, x4, x5, x6, x7], _ =>
      obtain ⟨s', ys, e, hs', hy⟩ := turn (x0 := .fz (.scr (Ints ns))) (x2 := .fz p) (x3 := x3) (x4 := x4) (x5 := x5) (x6 := x6) (x7 := x7) hs
      exact ⟨_, _, rfl, .inl e, s', ys, rfl, hs', hy⟩
  subst hρ
  have e2 : F_law_f1 (.fz (.scr (Ints ns)) :: v.sl :: List.replicate 6 .un) = some (.nx, .fz (.scr (Ints ns)) :: s :: xs) := by
    unfold F_law_f1 sFor
    have e0 : iRange1 (eC (.int 4)) (.fz (.scr (Ints ns)) :: v.sl :: List.replicate 6 .un) = some (rangeP 0 4, [], .fz (.scr (Ints ns)) :: v.sl :: List.replicate 6 .un) := rfl
    rw [e0, Option.bind_some]
    exact e
  have e1 : (sSet 1 (eCall F__law_hand (aCons (eVar 0) aNil))) (.fz (.scr (Ints ns)) :: List.replicate 7 .un) = some (.nx, .fz (.scr (Ints ns)) :: v.sl :: List.replicate 6 .un) := by
    cases v <;> simp [sSet, eCall, aCons, aNil, eVar, tmpOf, ev, toVl, Vl.sl, putB, List.replicate] at hv ⊢
  have K1 : Ok [[0, 1]] 2 := ⟨⟨by decide, by decide, by simp⟩, by decide, by decide, by simp⟩
  have K2 : Ok [[0, 2]] 2 := ⟨⟨by decide, by decide, by simp⟩, by decide, by decide, by simp⟩
  have K3 : Ok [[3, 4], [0, 9]] 2 := ⟨⟨by decide, by decide, by simp⟩, by decide, by decide, by simp⟩
  have c1 : cmn [[0, 1]] [[0, 2]] 2 = some none := by decide +kernel
  obtain ⟨r, c2⟩ : ∃ r, cmn [[0, 1]] [[3, 4], [0, 9]] 2 = some (some r) := by
    refine ⟨[0, 1], ?_⟩
    decide +kernel
  have f1 : F_common_row [.fz (.tup [.tup [.int 0, .int 1]]), .fz (.tup [.tup [.int 0, .int 2]])] = some (.fz .non, [.fz (.tup [.tup [.int 0, .int 1]]), .fz (.tup [.tup [.int 0, .int 2]])]) := S_common_row K1 K2 c1
  have f2 : F_common_row [.fz (.tup [.tup [.int 0, .int 1]]), .fz (.tup [.tup [.int 3, .int 4], .tup [.int 0, .int 9]])] = some (.fz (.tup (Ints r)), [.fz (.tup [.tup [.int 0, .int 1]]), .fz (.tup [.tup [.int 3, .int 4], .tup [.int 0, .int 9]])]) := S_common_row K1 K3 c2
  have e4 : (sIf (tOrF (tOf (eBin opIsNot (eCall F_common_row (aCons (eTup (aCons (eTup (aCons (eC (.int 0)) (aCons (eC (.int 1)) aNil))) aNil)) (aCons (eTup (aCons (eTup (aCons (eC (.int 0)) (aCons (eC (.int 2)) aNil))) aNil)) aNil))) (eC .non))) (tOf (eBin opIs (eCall F_common_row (aCons (eTup (aCons (eTup (aCons (eC (.int 0)) (aCons (eC (.int 1)) aNil))) aNil)) (aCons (eTup (aCons (eTup (aCons (eC (.int 3)) (aCons (eC (.int 4)) aNil))) (aCons (eTup (aCons (eC (.int 0)) (aCons (eC (.int 9)) aNil))) aNil))) aNil))) (eC .non)))) (sRet (eC (.bl false))) sNil) (.fz (.scr (Ints ns)) :: v.sl :: List.replicate 6 .un) = some (.nx, .fz (.scr (Ints ns)) :: v.sl :: List.replicate 6 .un) := by
    clear c1 c2 e e2 e1
    generalize (Sl.fz (.scr (Ints ns)) :: v.sl :: List.replicate 6 .un) = ρ0
    (apply Eq.trans; apply PL.stIfN; apply Eq.trans; apply PL.stTOrN; apply Eq.trans; apply PL.stOf; apply Eq.trans; apply PL.stBin; apply Eq.trans; apply PL.stCall; apply Eq.trans; apply PL.stCons; apply Eq.trans; apply PL.stTup; apply Eq.trans; apply PL.stCons; apply Eq.trans; apply PL.stTup; apply Eq.trans; apply PL.stCons; apply Eq.trans; apply PL.stC; rfl; apply Eq.trans; apply PL.stCons; apply Eq.trans; apply PL.stC; rfl; apply Eq.trans; apply PL.stNil; rfl; rfl; rfl; rfl; (first | assumption | decide | omega | simp [PL.lineN]); rfl; apply Eq.trans; apply PL.stNil; rfl; rfl; rfl; (first | assumption | decide | omega | simp [PL.lineN]); rfl; apply Eq.trans; apply PL.stCons; apply Eq.trans; apply PL.stTup; apply Eq.trans; apply PL.stCons; apply Eq.trans; apply PL.stTup; apply Eq.trans; apply PL.stCons; apply Eq.trans; apply PL.stC; rfl; apply Eq.trans; apply PL.stCons; apply Eq.trans; apply PL.stC; rfl; apply Eq.trans; apply PL.stNil; rfl; rfl; rfl; rfl; (first | assumption | decide | omega | simp [PL.lineN]); rfl; apply Eq.trans; apply PL.stNil; rfl; rfl; rfl; (first | assumption | decide | omega | simp [PL.lineN]); rfl; apply Eq.trans; apply PL.stNil; rfl; rfl; rfl; exact f1; rfl; apply Eq.trans; apply PL.stC; rfl; rfl; rfl; rfl; rfl; rfl; exact (PL.not_f rfl); apply Eq.trans; apply PL.stOf; apply Eq.trans; apply PL.stBin; apply Eq.trans; apply PL.stCall; apply Eq.trans; apply PL.stCons; apply Eq.trans; apply PL.stTup; apply Eq.trans; apply PL.stCons; apply Eq.trans; apply PL.stTup; apply Eq.trans; apply PL.stCons; apply Eq.trans; apply PL.stC; rfl; apply Eq.trans; apply PL.stCons; apply Eq.trans; apply PL.stC; rfl; apply Eq.trans; apply PL.stNil; rfl; rfl; rfl; rfl; (first | assumption | decide | omega | simp [PL.lineN]); rfl; apply Eq.trans; apply PL.stNil; rfl; rfl; rfl; (first | assumption | decide | omega | simp [PL.lineN]); rfl; apply Eq.trans; apply PL.stCons; apply Eq.trans; apply PL.stTup; apply Eq.trans; apply PL.stCons; apply Eq.trans; apply PL.stTup; apply Eq.trans; apply PL.stCons; apply Eq.trans; apply PL.stC; rfl; apply Eq.trans; apply PL.stCons; apply Eq.trans; apply PL.stC; rfl; apply Eq.trans; apply PL.stNil; rfl; rfl; rfl; rfl; (first | assumption | decide | omega | simp [PL.lineN]); rfl; apply Eq.trans; apply PL.stCons; apply Eq.trans; apply PL.stTup; apply Eq.trans; apply PL.stCons; apply Eq.trans; apply PL.stC; rfl; apply Eq.trans; apply PL.stCons; apply Eq.trans; apply PL.stC; rfl; apply Eq.trans; apply PL.stNil; rfl; rfl; rfl; rfl; (first | assumption | decide | omega | simp [PL.lineN]); rfl; apply Eq.trans; apply PL.stNil; rfl; rfl; rfl; rfl; (first | assumption | decide | omega | simp [PL.lineN]); rfl; apply Eq.trans; apply PL.stNil; rfl; rfl; rfl; exact f2; rfl; apply Eq.trans; apply PL.stC; rfl; rfl; rfl; rfl; rfl; rfl; rfl; exact rfl; apply Eq.trans; apply PL.stNilS; rfl; rfl)
  refine ⟨finP [false] (prepP [false] [.fz (.scr (Ints ns))]) (.fz (.scr (Ints ns)) :: s :: xs), ?_⟩
  unfold F_law fnF
  have ep : prepP [false] [.fz (.scr (Ints ns))] ++ List.replicate (8 - [false].length) Sl.un = .fz (.scr (Ints ns)) :: List.replicate 7 .un := rfl
  rw [ep, seq_nx e1, seq_nx e4, seq_nx e2]
  have e3 : sRet (eC (.bl true)) (.fz (.scr (Ints ns)) :: s :: xs) = some (.rt (.fz (.bl true)), .fz (.scr (Ints ns)) :: s :: xs) := by simp [sRet, eC, toVl]
  rw [e3, Option.bind_some]
end Wk24
open PySem PySem.W PyProof.Rows in
set_option maxRecDepth 100000 in
set_option maxHeartbeats 0 in
theorem PySem.Challenge.cw_latersums_k24_whole_rows_common_to_two_s_holds : PySem.Challenge.rw_latersums_k24_whole_rows_common_to_two_s.Holds := by
  w_on; o_law; k_head; (case hw => w_witness2)
  k_fill
  refine L2.walk_of (l := PySem.Challenge.rw_latersums_k24_whole_rows_common_to_two_s) (n := 63) (k := 7) (x := "script") (CX := fun _ => L2.CX0) (sp := fun w => PL.spEnd _) rfl (by decide) rfl ⟨rfl, by decide, by decide⟩ (fun w h Y => PySem.W.kIn_of Y) ?F (fun _ _ a ns hl _ hS => ⟨a, ns, rfl, hS, hl, fun _ => rfl⟩) (fun _ _ _ _ _ h => h)
  case F =>
    intro w mg fa h KX G hmg
    refine' Wk24.all_mk (fun ns _ => Wk24.law_true ns) KX G hmg ?a0 ?l0 ?c0 ?k0 ?a1 ?l1 ?c1 ?k1 ?a2 ?l2 ?c2 ?k2 ?a3 ?l3 ?c3 ?k3 ?a4 ?l4 ?c4 ?k4 ?a5 ?l5 ?c5 ?k5 ?a6 ?l6 ?c6 ?k6 ?a7 ?l7 ?c7 ?k7 ?a8 ?l8 ?c8 ?k8 ?a9 ?l9 ?c9 ?k9 ?a10 ?l10 ?c10 ?k10 ?a11 ?l11 ?c11 ?k11 ?a12 ?l12 ?c12 ?k12 ?a13 ?l13 ?c13 ?k13 ?a14 ?l14 ?c14 ?k14 ?a15 ?l15 ?c15 ?k15 ?a16 ?l16 ?c16 ?k16 ?a17 ?l17 ?c17 ?k17 ?a18 ?l18 ?c18 ?k18 ?a19 ?l19 ?c19 ?k19 ?a20 ?l20 ?c20 ?k20 ?a21 ?l21 ?c21 ?k21 ?z_abs ?z_all ?z_bool ?z_int ?z_isinstance ?z_len ?z_list ?z_max ?z_min ?z_range ?z_sum ?z_tuple ?z_zip ?z_MOST_MAKERS ?z_MOST_TURNS ?z_MOST_WIDE
    (case a0 => k_is)
    (case l0 => k_is)
    (case c0 => k_is)
    (case k0 => k_is)
    (case a1 => k_is)
    (case l1 => k_is)
    (case c1 => k_is)
    (case k1 => k_is)
    (case a2 => k_is)
    (case l2 => k_is)
    (case c2 => k_is)
    (case k2 => k_is)
    (case a3 => k_is)
    (case l3 => k_is)
    (case c3 => k_is)
    (case k3 => k_is)
    (case a4 => k_is)
    (case l4 => k_is)
    (case c4 => k_is)
    (case k4 => k_is)
    (case a5 => k_is)
    (case l5 => k_is)
    (case c5 => k_is)
    (case k5 => k_is)
    (case a6 => k_is)
    (case l6 => k_is)
    (case c6 => k_is)
    (case k6 => k_is)
    (case a7 => k_is)
    (case l7 => k_is)
    (case c7 => k_is)
    (case k7 => k_is)
    (case a8 => k_is)
    (case l8 => k_is)
    (case c8 => k_is)
    (case k8 => k_is)
    (case a9 => k_is)
    (case l9 => k_is)
    (case c9 => k_is)
    (case k9 => k_is)
    (case a10 => k_is)
    (case l10 => k_is)
    (case c10 => k_is)
    (case k10 => k_is)
    (case a11 => k_is)
    (case l11 => k_is)
    (case c11 => k_is)
    (case k11 => k_is)
    (case a12 => k_is)
    (case l12 => k_is)
    (case c12 => k_is)
    (case k12 => k_is)
    (case a13 => k_is)
    (case l13 => k_is)
    (case c13 => k_is)
    (case k13 => k_is)
    (case a14 => k_is)
    (case l14 => k_is)
    (case c14 => k_is)
    (case k14 => k_is)
    (case a15 => k_is)
    (case l15 => k_is)
    (case c15 => k_is)
    (case k15 => k_is)
    (case a16 => k_is)
    (case l16 => k_is)
    (case c16 => k_is)
    (case k16 => k_is)
    (case a17 => k_is)
    (case l17 => k_is)
    (case c17 => k_is)
    (case k17 => k_is)
    (case a18 => k_is)
    (case l18 => k_is)
    (case c18 => k_is)
    (case k18 => k_is)
    (case a19 => k_is)
    (case l19 => k_is)
    (case c19 => k_is)
    (case k19 => k_is)
    (case a20 => k_is)
    (case l20 => k_is)
    (case c20 => k_is)
    (case k20 => k_is)
    (case a21 => k_is)
    (case l21 => k_is)
    (case c21 => k_is)
    (case k21 => k_is)
    (case z_abs => k_is)
    (case z_all => k_is)
    (case z_bool => k_is)
    (case z_int => k_is)
    (case z_isinstance => k_is)
    (case z_len => k_is)
    (case z_list => k_is)
    (case z_max => k_is)
    (case z_min => k_is)
    (case z_range => k_is)
    (case z_sum => k_is)
    (case z_tuple => k_is)
    (case z_zip => k_is)
    (case z_MOST_MAKERS => k_is)
    (case z_MOST_TURNS => k_is)
    (case z_MOST_WIDE => k_is)

