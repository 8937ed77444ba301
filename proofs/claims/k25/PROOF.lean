import PyProof.Rows.All
import Wide.All
import OpenK.AllK
import Wide.FinOn
import HandS.Comp
import HandS.Conv
import HandS.Deep
import HandS.Flow
import HandS.ForMost
import HandS.IsInst
import HandS.NamedTupSort
import HandS.SetFor
import HandS.Strs
import HandS.Style
import HandS.Text
import HandS.TupAny
import HandS.TupLe
import HandS.TupMul
import HandS.TupSets
import HandS.Walk
import HandS.Wide
import KE.GoesEnum
import KE.KDictZip
import KE.KRevSl
import KE.SortData
import PySem.Challenge.RW_latersums_k25_whole_sectors_steps_and_ki
set_option Elab.async false
set_option linter.all false
set_option maxRecDepth 100000
set_option maxHeartbeats 4000000
/-! PLa: plain values, what stands for them in the heap, the bag of contents. -/
namespace PL
open PySem PySem.Spec PyProof.Rows L2

/-- the built-in classes that a text names -/
inductive Ty where
  | non | bool | int | str | tuple | list | dict | set
  deriving DecidableEq
def Ty.nm : Ty → String
  | .non => "NoneType" | .bool => "bool" | .int => "int" | .str => "str" | .tuple => "tuple" | .list => "list" | .dict => "dict" | .set => "set"
/-- a plain value -/
inductive PV where
  | non | bl (b : Bool) | int (i : Int) | str (x : Str)
  | tup (xs : List PV) | lst (xs : List PV) | scr (xs : List PV)
  | ins (c : Nat) (xs : List PV)
  | ty (t : Ty) | cls (c : Nat)
  | dct (ks : List Int) (xs : List PV)

/-- what the text says of classes: their addresses, their attributes in order -/
structure RE where
  K : PySem.W.Frag
  cl : Nat → Addr
  fl : Nat → List Str

/-- a tuple that is tracked, or one of the module's -/
def TupAt (K : PySem.W.Frag) (F : Hp) (a : Addr) (vs : List V) : Prop :=
  F a = some (.tup vs) ∨ ∃ (o : Obj) (its : Array Value) (n : Nat), K.lookup a = some o ∧ o.cls = .type "tuple" ∧ o.data = .seq its n ∧ its.size ≤ sizeLine ∧ Vals vs its.toList
theorem TupAt.sq {K : PySem.W.Frag} {F : Hp} {a : Addr} {vs : List V} (h : TupAt K F a vs) : SqT K F a vs := by
  rcases h with h | h
  · exact SqT.of h
  · exact .inr h
mutual
inductive Rp (R : RE) (F : Hp) : PV → V → Prop
  | non : Rp R F .non .non
  | bl (b : Bool) : Rp R F (.bl b) (.bl b)
  | int (i : Int) : Rp R F (.int i) (.int i)
  | str (x : Str) : Rp R F (.str x) (.str x)
  | tup {a : Addr} {xs : List PV} {vs : List V} : TupAt R.K F a vs → RpL R F xs vs → Rp R F (.tup xs) (.ref a)
  | lst {a : Addr} {xs : List PV} {vs : List V} : F a = some (.lst vs) → RpL R F xs vs → Rp R F (.lst xs) (.ref a)
  | scr {a : Addr} {xs : List PV} {vs : List V} : SqL R.K F a vs → RpL R F xs vs → Rp R F (.scr xs) (.ref a)
  | ins {a dx : Addr} {c : Nat} {xs : List PV} {vs : List V} : F a = some (.ins (R.cl c) dx ((R.fl c).zip vs)) → vs.length = (R.fl c).length → RpL R F xs vs → Rp R F (.ins c xs) (.ref a)
  | ty (t : Ty) : Rp R F (.ty t) (.ty t.nm)
  | cls (c : Nat) : Rp R F (.cls c) (.ref (R.cl c))
  | dct {a : Addr} {ks : List Int} {xs : List PV} {vs : List V} : F a = some (.dK ((ks.map Sum.inl).zip vs)) → vs.length = ks.length → RpL R F xs vs → Rp R F (.dct ks xs) (.ref a)
inductive RpL (R : RE) (F : Hp) : List PV → List V → Prop
  | nil : RpL R F [] []
  | cons {p : PV} {ps : List PV} {v : V} {vs : List V} : Rp R F p v → RpL R F ps vs → RpL R F (p :: ps) (v :: vs)
end

/-- the one heap within the other -/
def Sub (F G : Hp) : Prop := ∀ a o, F a = some o → G a = some o
theorem Sub.refl {F : Hp} : Sub F F := fun _ _ h => h
theorem Sub.trans {F G J : Hp} (h : Sub F G) (h2 : Sub G J) : Sub F J := fun a o e => h2 a o (h a o e)
theorem Sub.rd {F G : Hp} (h : Sub F G) {a : Addr} {u : HO} (r : Rd F a u) : Rd G a u := by
  rcases r with r | ⟨o, r⟩
  · exact .inl (h _ _ r)
  · exact .inr ⟨o, h _ _ r⟩
theorem Sub.sqL {F G : Hp} (h : Sub F G) {K : PySem.W.Frag} {a : Addr} {vs : List V} (r : SqL K F a vs) : SqL K G a vs := by
  rcases r with r | r
  · exact .inl (h.rd r)
  · exact .inr r
theorem Sub.sqT {F G : Hp} (h : Sub F G) {K : PySem.W.Frag} {a : Addr} {vs : List V} (r : SqT K F a vs) : SqT K G a vs := by
  rcases r with r | r
  · exact .inl (h.rd r)
  · exact .inr r
theorem Sub.tupAt {F G : Hp} (h : Sub F G) {K : PySem.W.Frag} {a : Addr} {vs : List V} (r : TupAt K F a vs) : TupAt K G a vs := by
  rcases r with r | r
  · exact .inl (h _ _ r)
  · exact .inr r
mutual
theorem Rp.mono {R : RE} {F G : Hp} (h : Sub F G) : ∀ {p : PV} {x : V}, Rp R F p x → Rp R G p x
  | _, _, .non => .non
  | _, _, .bl b => .bl b
  | _, _, .int i => .int i
  | _, _, .str x => .str x
  | _, _, .tup q r => .tup (h.tupAt q) (RpL.mono h r)
  | _, _, .lst q r => .lst (h _ _ q) (RpL.mono h r)
  | _, _, .scr q r => .scr (h.sqL q) (RpL.mono h r)
  | _, _, .ins q l r => .ins (h _ _ q) l (RpL.mono h r)
  | _, _, .ty t => .ty t
  | _, _, .cls c => .cls c
  | _, _, .dct q l r => .dct (h _ _ q) l (RpL.mono h r)
theorem RpL.mono {R : RE} {F G : Hp} (h : Sub F G) : ∀ {p : List PV} {x : List V}, RpL R F p x → RpL R G p x
  | _, _, .nil => .nil
  | _, _, .cons q r => .cons (Rp.mono h q) (RpL.mono h r)
end
theorem RpL.length {R : RE} {F : Hp} : ∀ {ps : List PV} {vs : List V}, RpL R F ps vs → ps.length = vs.length
  | _, _, .nil => rfl
  | _, _, .cons _ r => congrArg (· + 1) (RpL.length r)
theorem RpL.append {R : RE} {F : Hp} : ∀ {ps qs : List PV} {vs us : List V}, RpL R F ps vs → RpL R F qs us → RpL R F (ps ++ qs) (vs ++ us)
  | _, _, _, _, .nil, s => s
  | _, _, _, _, .cons q r, s => .cons q (RpL.append r s)
theorem RpL.one {R : RE} {F : Hp} {p : PV} {v : V} (h : Rp R F p v) : RpL R F [p] [v] := .cons h .nil
theorem RpL.get {R : RE} {F : Hp} : ∀ {ps : List PV} {vs : List V} {i : Nat} {v : V}, RpL R F ps vs → vs[i]? = some v → ∃ p, ps[i]? = some p ∧ Rp R F p v
  | _, _, i, _, .nil, h => by simp at h
  | _, _, 0, _, .cons q r, h => by simp at h; subst h; exact ⟨_, rfl, q⟩
  | _, _, i + 1, _, .cons q r, h => by
    obtain ⟨p, e, z⟩ := RpL.get (i := i) r (by simpa using h)
    exact ⟨p, by simpa using e, z⟩
theorem RpL.get' {R : RE} {F : Hp} : ∀ {ps : List PV} {vs : List V} {i : Nat} {p : PV}, RpL R F ps vs → ps[i]? = some p → ∃ v, vs[i]? = some v ∧ Rp R F p v
  | _, _, i, _, .nil, h => by simp at h
  | _, _, 0, _, .cons q r, h => by simp at h; subst h; exact ⟨_, rfl, q⟩
  | _, _, i + 1, _, .cons q r, h => by
    obtain ⟨p, e, z⟩ := RpL.get' (i := i) r (by simpa using h)
    exact ⟨p, by simpa using e, z⟩
theorem RpL.set {R : RE} {F : Hp} : ∀ {ps : List PV} {vs : List V} {i : Nat} {p : PV} {v : V}, RpL R F ps vs → Rp R F p v → RpL R F (ps.set i p) (vs.set i v)
  | _, _, _, _, _, .nil, _ => .nil
  | _, _, 0, _, _, .cons q r, h => .cons h r
  | _, _, i + 1, _, _, .cons q r, h => .cons q (RpL.set r h)
theorem RpL.take {R : RE} {F : Hp} : ∀ (n : Nat) {ps : List PV} {vs : List V}, RpL R F ps vs → RpL R F (ps.take n) (vs.take n)
  | 0, _, _, _ => by simp; exact .nil
  | n + 1, _, _, .nil => by simp; exact .nil
  | n + 1, _, _, .cons q r => .cons q (RpL.take n r)
theorem RpL.drop {R : RE} {F : Hp} : ∀ (n : Nat) {ps : List PV} {vs : List V}, RpL R F ps vs → RpL R F (ps.drop n) (vs.drop n)
  | 0, _, _, h => h
  | n + 1, _, _, .nil => by simp; exact .nil
  | n + 1, _, _, .cons q r => RpL.drop n r
theorem RpL.reverse {R : RE} {F : Hp} : ∀ {ps : List PV} {vs : List V}, RpL R F ps vs → RpL R F ps.reverse vs.reverse
  | _, _, .nil => .nil
  | _, _, .cons q r => by rw [List.reverse_cons, List.reverse_cons]; exact (RpL.reverse r).append (.one q)
theorem RpL.rep {R : RE} {F : Hp} {ps : List PV} {vs : List V} (h : RpL R F ps vs) : ∀ k : Nat, RpL R F (List.replicate k ps).flatten (List.replicate k vs).flatten
  | 0 => .nil
  | k + 1 => by
    rw [List.replicate_succ, List.replicate_succ, List.flatten_cons, List.flatten_cons]
    exact h.append (RpL.rep h k)
theorem RpL.ints {R : RE} {F : Hp} : ∀ {ns : List Int} {vs : List V}, RpL R F (ns.map PV.int) vs → vs = ns.map V.int
  | [], _, .nil => rfl
  | n :: ns, _, .cons q r => by cases q; rw [RpL.ints r]; rfl
theorem RpL.bls {R : RE} {F : Hp} : ∀ {ns : List Bool} {vs : List V}, RpL R F (ns.map PV.bl) vs → vs = ns.map V.bl
  | [], _, .nil => rfl
  | n :: ns, _, .cons q r => by cases q; rw [RpL.bls r]; rfl
theorem RpL.of_ints {R : RE} {F : Hp} : ∀ (ns : List Int), RpL R F (ns.map PV.int) (ns.map V.int)
  | [] => .nil
  | n :: ns => .cons (.int n) (RpL.of_ints ns)

/-! ### contents -/
/-- what a slot or a temporary holds: nothing known; a value that stays; a list of one's own; an instance of one's own; lent away; the same as slot i (to be read) -/
inductive Sl where
  | un
  | fz (p : PV)
  | own (xs : List PV)
  | obj (c : Nat) (xs : List PV)
  | moved
  | pk (i : Nat)
  | br (i : Nat) (s : Sl)

def SlR (R : RE) (F H : Hp) : Sl → Option V → Prop
  | .un, _ => True
  | .fz p, o => ∃ x, o = some x ∧ Rp R F p x
  | .own xs, o => ∃ a vs, o = some (.ref a) ∧ F a = none ∧ H a = some (.lst vs) ∧ RpL R F xs vs
  | .obj c xs, o => ∃ a dx vs, o = some (.ref a) ∧ F a = none ∧ H a = some (.ins (R.cl c) dx (((R.fl c).take xs.length).zip vs)) ∧ xs.length ≤ (R.fl c).length ∧ RpL R F xs vs
  | .moved, _ => True
  | .pk _, _ => True
  | .br _ _, _ => True
/-- the own address of a content -/
def adr : Sl → Option V → Option Addr
  | .own _, some (.ref a) => some a
  | .obj _ _, some (.ref a) => some a
  | _, _ => none

abbrev Bg := List (Sl × Option V)
/-- the entry: the heaps there, what was lent -/
structure En where
  H : Hp
  F : Hp
  W : List Addr

structure Bag (R : RE) (e : En) (F H : Hp) (B : Bg) : Prop where
  sub : Sub F H
  all : ∀ (i : Nat) (s : Sl) (o : Option V), B[i]? = some (s, o) → SlR R F H s o
  dis : ∀ (i j : Nat) (s t : Sl) (o u : Option V) (a : Addr), B[i]? = some (s, o) → B[j]? = some (t, u) → adr s o = some a → adr t u = some a → i = j
  fr : ∀ a o, e.H a = some o → a ∉ e.W → H a = some o
  frW : ∀ a ∈ e.W, H a ≠ none
  ow : ∀ (i : Nat) (s : Sl) (o : Option V) (a : Addr), B[i]? = some (s, o) → adr s o = some a → e.H a = none ∨ a ∈ e.W
  hf : ∀ a o, F a = some o → e.F a = some o ∨ e.H a = none ∨ a ∈ e.W
  hf0 : Sub e.F F

theorem SlR.own_of {R : RE} {F H : Hp} {s : Sl} {o : Option V} {a : Addr} (h : SlR R F H s o) (e : adr s o = some a) : F a = none ∧ (∃ u, H a = some u) := by
  cases s with
  | own xs =>
    obtain ⟨b, vs, rfl, h1, h2, _⟩ := h
    cases e
    exact ⟨h1, _, h2⟩
  | obj c xs =>
    obtain ⟨b, dx, vs, rfl, h1, h2, _⟩ := h
    cases e
    exact ⟨h1, _, h2⟩
  | _ => cases e
/-- another heap: what is frozen grows, the own address is as it was -/
theorem SlR.keep {R : RE} {F H F' H' : Hp} {s : Sl} {o : Option V} (h : SlR R F H s o) (hs : Sub F F') (ha : ∀ a, adr s o = some a → F' a = none ∧ H' a = H a) : SlR R F' H' s o := by
  cases s with
  | fz p =>
    obtain ⟨x, e, r⟩ := h
    exact ⟨x, e, r.mono hs⟩
  | own xs =>
    obtain ⟨b, vs, rfl, h1, h2, r⟩ := h
    obtain ⟨q1, q2⟩ := ha b rfl
    exact ⟨b, vs, rfl, q1, q2.trans h2, r.mono hs⟩
  | obj c xs =>
    obtain ⟨b, dx, vs, rfl, h1, h2, l, r⟩ := h
    obtain ⟨q1, q2⟩ := ha b rfl
    exact ⟨b, dx, vs, rfl, q1, q2.trans h2, l, r.mono hs⟩
  | _ => trivial

section
variable {R : RE} {e : En} {F H : Hp} {B : Bg}

theorem Bag.tr (h : Bag R e F H B) {i : Nat} {s : Sl} {o : Option V} {a : Addr} (g : B[i]? = some (s, o)) (q : adr s o = some a) : F a = none ∧ ∃ u, H a = some u := (h.all i s o g).own_of q
/-- an address that is new is nobody's -/
theorem Bag.new (h : Bag R e F H B) {p : Addr} (n : H p = none) : F p = none ∧ (e.H p = none ∨ p ∈ e.W) ∧ p ∉ e.W ∧ e.H p = none := by
  have hw : p ∉ e.W := fun z => h.frW p z n
  have hn : e.H p = none := by
    cases q : e.H p with
    | none => rfl
    | some o => rw [h.fr p o q hw] at n; cases n
  refine ⟨?_, .inl hn, hw, hn⟩
  cases q : F p with
  | none => rfl
  | some o => rw [h.sub p o q] at n; cases n

/-- a content put at place i that owns nothing, or what the old one owned -/
theorem Bag.put (h : Bag R e F H B) {i : Nat} {s t : Sl} {o : Option V} (g : B[i]? = some (s, o)) (ht : SlR R F H t o) (ha : ∀ a, adr t o = some a → adr s o = some a) : Bag R e F H (B.set i (t, o)) := by
  have hi : i < B.length := (List.getElem?_eq_some_iff.mp g).1
  have at_ : ∀ (j : Nat) (u : Sl) (v : Option V), (B.set i (t, o))[j]? = some (u, v) → (j = i ∧ u = t ∧ v = o) ∨ (j ≠ i ∧ B[j]? = some (u, v)) := fun j u v q => by
    by_cases z : i = j
    · subst z
      rw [List.getElem?_set_self hi] at q
      cases q
      exact .inl ⟨rfl, rfl, rfl⟩
    · rw [List.getElem?_set_ne z] at q
      exact .inr ⟨fun y => z y.symm, q⟩
  refine ⟨h.sub, fun j u v q => ?_, fun j k u w v x a q1 q2 a1 a2 => ?_, h.fr, h.frW, fun j u v a q a1 => ?_, h.hf, h.hf0⟩
  · rcases at_ j u v q with ⟨_, rfl, rfl⟩ | ⟨_, q⟩
    · exact ht
    · exact h.all j u v q
  · rcases at_ j u v q1 with ⟨ej, eu, ev⟩ | ⟨n1, q1⟩
    · rcases at_ k w x q2 with ⟨ek, ew, ex⟩ | ⟨n2, q2⟩
      · rw [ej, ek]
      · rw [ej]
        rw [eu, ev] at a1
        exact h.dis i k s w o x a g q2 (ha a a1) a2
    · rcases at_ k w x q2 with ⟨ek, ew, ex⟩ | ⟨n2, q2⟩
      · rw [ek]
        rw [ew, ex] at a2
        exact h.dis j i u s v o a q1 g a1 (ha a a2)
      · exact h.dis j k u w v x a q1 q2 a1 a2
  · rcases at_ j u v q with ⟨rfl, rfl, rfl⟩ | ⟨_, q⟩
    · exact h.ow j s v a g (ha a a1)
    · exact h.ow j u v a q a1

theorem get_app {B : Bg} {p q : Sl × Option V} {i : Nat} (h : (B ++ [p])[i]? = some q) : (i < B.length ∧ B[i]? = some q) ∨ (i = B.length ∧ q = p) := by
  by_cases z : i < B.length
  · rw [List.getElem?_append_left z] at h
    exact .inl ⟨z, h⟩
  · rw [List.getElem?_append_right (by omega)] at h
    by_cases y : i - B.length = 0
    · rw [y] at h
      simp at h
      exact .inr ⟨by omega, h.symm⟩
    · rw [List.getElem?_eq_none (by simp; omega)] at h
      cases h
theorem app_get {B : Bg} {p q : Sl × Option V} {i : Nat} (h : B[i]? = some q) : (B ++ [p])[i]? = some q := by
  rw [List.getElem?_append_left (List.getElem?_eq_some_iff.mp h).1]; exact h
theorem app_last {B : Bg} {p : Sl × Option V} : (B ++ [p])[B.length]? = some p := by
  rw [List.getElem?_append_right (Nat.le_refl _)]; simp

/-- the last one away -/
theorem Bag.pop {p : Sl × Option V} (h : Bag R e F H (B ++ [p])) : Bag R e F H B :=
  ⟨h.sub, fun i s o g => h.all i s o (app_get g), fun i j s t o u a g1 g2 => h.dis i j s t o u a (app_get g1) (app_get g2), h.fr, h.frW, fun i s o a g => h.ow i s o a (app_get g), h.hf, h.hf0⟩
/-- one more that owns nothing -/
theorem Bag.push (h : Bag R e F H B) {s : Sl} {o : Option V} (hs : SlR R F H s o) (n : adr s o = none) : Bag R e F H (B ++ [(s, o)]) := by
  refine ⟨h.sub, fun i t u g => ?_, fun i j t t' u u' a g1 g2 a1 a2 => ?_, h.fr, h.frW, fun i t u a g a1 => ?_, h.hf, h.hf0⟩
  · rcases get_app g with ⟨_, g⟩ | ⟨_, g⟩
    · exact h.all i t u g
    · cases g; exact hs
  · rcases get_app g1 with ⟨_, g1⟩ | ⟨_, g1⟩
    · rcases get_app g2 with ⟨_, g2⟩ | ⟨_, g2⟩
      · exact h.dis i j t t' u u' a g1 g2 a1 a2
      · cases g2; rw [n] at a2; cases a2
    · cases g1; rw [n] at a1; cases a1
  · rcases get_app g with ⟨_, g⟩ | ⟨_, g⟩
    · exact h.ow i t u a g a1
    · cases g; rw [n] at a1; cases a1
theorem Bag.push_fz (h : Bag R e F H B) {p : PV} {x : V} (r : Rp R F p x) : Bag R e F H (B ++ [(.fz p, some x)]) := h.push ⟨x, rfl, r⟩ rfl
theorem Bag.push_un (h : Bag R e F H B) {o : Option V} : Bag R e F H (B ++ [(.un, o)]) := h.push trivial rfl

theorem upd_new {H : Hp} {p a : Addr} {o u : HO} (n : H p = none) (h : H a = some u) : upd H p o a = some u := by
  rw [upd_ne (ne_of_none h n)]; exact h
theorem sub_upd {H : Hp} {p : Addr} {o : HO} (n : H p = none) : Sub H (upd H p o) := fun a u h => upd_new n h
theorem sub_upd2 {F H : Hp} {p : Addr} {o : HO} (h : Sub F H) (n : F p = none) : Sub F (upd H p o) := fun a u q => by
  rw [upd_ne (ne_of_none q n)]; exact h a u q
theorem sub_both {F H : Hp} {p : Addr} {o : HO} (h : Sub F H) : Sub (upd F p o) (upd H p o) := fun a u q => by
  by_cases z : a = p
  · rw [z, upd_same] at q ⊢; exact q
  · rw [upd_ne z] at q ⊢; exact h a u q

/-- a new object laid in the heap, nobody's yet -/
theorem Bag.lay (h : Bag R e F H B) {p : Addr} {o : HO} (n : H p = none) : Bag R e F (upd H p o) B := by
  obtain ⟨n1, _, n3, n4⟩ := h.new n
  refine ⟨sub_upd2 h.sub n1, fun i s u g => (h.all i s u g).keep .refl fun a q => ?_, h.dis, fun a u q w => upd_new n (h.fr a u q w), fun a w z => ?_, h.ow, h.hf, h.hf0⟩
  · obtain ⟨q1, u, q2⟩ := h.tr g q
    exact ⟨q1, by rw [upd_ne (ne_of_none q2 n)]⟩
  · by_cases y : a = p
    · rw [y, upd_same] at z; cases z
    · rw [upd_ne y] at z; exact h.frW a w z
/-- what stands at p (nobody's own) is frozen -/
theorem Bag.ice (h : Bag R e F H B) {p : Addr} {o : HO} (q : H p = some o) (m : ∀ (i : Nat) (s : Sl) (u : Option V), B[i]? = some (s, u) → adr s u ≠ some p) (w : e.H p = none ∨ p ∈ e.W) (n : F p = none) : Bag R e (upd F p o) H B := by
  refine ⟨fun a u z => ?_, fun i s u g => (h.all i s u g).keep (sub_upd n) fun a y => ?_, h.dis, h.fr, h.frW, h.ow, fun a u z => ?_, h.hf0.trans (sub_upd n)⟩
  · by_cases y : a = p
    · rw [y, upd_same] at z; cases z; rw [y]; exact q
    · rw [upd_ne y] at z; exact h.sub a u z
  · obtain ⟨q1, _⟩ := h.tr g y
    exact ⟨by rw [upd_ne (fun z => m i s u g (by rw [y, z]))]; exact q1, rfl⟩
  · by_cases y : a = p
    · exact .inr (y ▸ w)
    · rw [upd_ne y] at z; exact h.hf a u z
/-- a new object that stays as it is -/
theorem Bag.lay_ice (h : Bag R e F H B) {p : Addr} {o : HO} (n : H p = none) : Bag R e (upd F p o) (upd H p o) B := by
  obtain ⟨n1, n2, _, _⟩ := h.new n
  refine (h.lay n).ice upd_same (fun i s u g q => ?_) n2 n1
  obtain ⟨_, v, z⟩ := h.tr g q
  rw [n] at z; cases z
theorem Bag.new_tup (h : Bag R e F H B) {p : Addr} {xs : List PV} {vs : List V} (n : H p = none) (r : RpL R F xs vs) :
    Bag R e (upd F p (.tup vs)) (upd H p (.tup vs)) (B ++ [(.fz (.tup xs), some (.ref p))]) :=
  (h.lay_ice n).push_fz (.tup (.inl upd_same) (r.mono (sub_upd (h.new n).1)))
theorem Bag.new_lst (h : Bag R e F H B) {p : Addr} {xs : List PV} {vs : List V} (n : H p = none) (r : RpL R F xs vs) :
    Bag R e F (upd H p (.lst vs)) (B ++ [(.own xs, some (.ref p))]) := by
  obtain ⟨n1, n2, _, _⟩ := h.new n
  have h2 := h.lay (o := .lst vs) n
  refine ⟨h2.sub, fun i s o g => ?_, fun i j t t' u u' a g1 g2 a1 a2 => ?_, h2.fr, h2.frW, fun i t u a g a1 => ?_, h2.hf, h2.hf0⟩
  · rcases get_app g with ⟨_, g⟩ | ⟨_, g⟩
    · exact h2.all i s o g
    · cases g; exact ⟨p, vs, rfl, n1, upd_same, r⟩
  · rcases get_app g1 with ⟨_, g1⟩ | ⟨l1, g1⟩
    · rcases get_app g2 with ⟨_, g2⟩ | ⟨l2, g2⟩
      · exact h.dis i j t t' u u' a g1 g2 a1 a2
      · cases g2
        obtain ⟨_, v, z⟩ := h.tr g1 a1
        cases a2
        rw [n] at z; cases z
    · rcases get_app g2 with ⟨_, g2⟩ | ⟨l2, g2⟩
      · cases g1
        obtain ⟨_, v, z⟩ := h.tr g2 a2
        cases a1
        rw [n] at z; cases z
      · rw [l1, l2]
  · rcases get_app g with ⟨_, g⟩ | ⟨_, g⟩
    · exact h.ow i t u a g a1
    · cases g; cases a1; exact n2

/-- an own list at place i stays as it is from now on -/
theorem Bag.freeze (h : Bag R e F H B) {i : Nat} {xs : List PV} {o : Option V} (g : B[i]? = some (.own xs, o)) : ∃ F', Sub F F' ∧ Bag R e F' H (B.set i (.fz (.lst xs), o)) := by
  obtain ⟨a, vs, rfl, h1, h2, r⟩ := h.all i _ _ g
  have h3 := h.put g (t := .un) trivial (fun _ z => nomatch z)
  have hi : i < B.length := (List.getElem?_eq_some_iff.mp g).1
  have no : ∀ (j : Nat) (s : Sl) (u : Option V), (B.set i (.un, some (.ref a)))[j]? = some (s, u) → adr s u ≠ some a := fun j s u q z => by
    by_cases y : i = j
    · subst y
      rw [List.getElem?_set_self hi] at q
      cases q; cases z
    · rw [List.getElem?_set_ne y] at q
      exact y (h.dis i j _ s _ u a g q rfl z)
  have h4 := h3.ice h2 no (h.ow i _ _ a g rfl) h1
  refine ⟨upd F a (.lst vs), sub_upd h1, ?_⟩
  have h5 := h4.put (i := i) (s := .un) (o := some (.ref a)) (t := .fz (.lst xs)) (List.getElem?_set_self hi) ⟨_, rfl, .lst upd_same (r.mono (sub_upd h1))⟩ (fun _ z => nomatch z)
  rw [List.set_set] at h5
  exact h5
/-- an own instance that is whole -/
theorem Bag.freezeObj (h : Bag R e F H B) {i c : Nat} {xs : List PV} {o : Option V} (g : B[i]? = some (.obj c xs, o)) (l : xs.length = (R.fl c).length) : ∃ F', Sub F F' ∧ Bag R e F' H (B.set i (.fz (.ins c xs), o)) := by
  obtain ⟨a, dx, vs, rfl, h1, h2, _, r⟩ := h.all i _ _ g
  have h3 := h.put g (t := .un) trivial (fun _ z => nomatch z)
  have hi : i < B.length := (List.getElem?_eq_some_iff.mp g).1
  have no : ∀ (j : Nat) (s : Sl) (u : Option V), (B.set i (.un, some (.ref a)))[j]? = some (s, u) → adr s u ≠ some a := fun j s u q z => by
    by_cases y : i = j
    · subst y
      rw [List.getElem?_set_self hi] at q
      cases q; cases z
    · rw [List.getElem?_set_ne y] at q
      exact y (h.dis i j _ s _ u a g q rfl z)
  have h4 := h3.ice h2 no (h.ow i _ _ a g rfl) h1
  refine ⟨upd F a (.ins (R.cl c) dx (((R.fl c).take xs.length).zip vs)), sub_upd h1, ?_⟩
  have h5 := h4.put (i := i) (s := .un) (o := some (.ref a)) (t := .fz (.ins c xs)) (List.getElem?_set_self hi) ⟨_, rfl, .ins (dx := dx) (vs := vs) (by rw [upd_same, l, List.take_length]) (by rw [← r.length, l]) (r.mono (sub_upd h1))⟩ (fun _ z => nomatch z)
  rw [List.set_set] at h5
  exact h5
/-- the own object at place i is written -/
theorem Bag.write (h : Bag R e F H B) {i : Nat} {s t : Sl} {a : Addr} {o : HO} (g : B[i]? = some (s, some (.ref a))) (q : adr s (some (.ref a)) = some a) (q' : adr t (some (.ref a)) = some a)
    (ht : SlR R F (upd H a o) t (some (.ref a))) : Bag R e F (upd H a o) (B.set i (t, some (.ref a))) := by
  have hi : i < B.length := (List.getElem?_eq_some_iff.mp g).1
  obtain ⟨n1, u0, n2⟩ := h.tr g q
  have at_ : ∀ (j : Nat) (u : Sl) (v : Option V), (B.set i (t, some (.ref a)))[j]? = some (u, v) → (j = i ∧ u = t ∧ v = some (.ref a)) ∨ (j ≠ i ∧ B[j]? = some (u, v)) := fun j u v q => by
    by_cases z : i = j
    · subst z
      rw [List.getElem?_set_self hi] at q
      cases q
      exact .inl ⟨rfl, rfl, rfl⟩
    · rw [List.getElem?_set_ne z] at q
      exact .inr ⟨fun y => z y.symm, q⟩
  refine ⟨sub_upd2 h.sub n1, fun j u v y => ?_, fun j k u w v x b q1 q2 a1 a2 => ?_, fun b u y w => ?_, fun b w z => ?_, fun j u v b y a1 => ?_, h.hf, h.hf0⟩
  · rcases at_ j u v y with ⟨_, rfl, rfl⟩ | ⟨nj, y⟩
    · exact ht
    · refine (h.all j u v y).keep .refl fun b z => ⟨(h.tr y z).1, ?_⟩
      rw [upd_ne]
      intro e1
      rw [e1] at z
      exact nj (h.dis j i u s v _ a y g z q)
  · rcases at_ j u v q1 with ⟨ej, eu, ev⟩ | ⟨n1, q1⟩
    · rcases at_ k w x q2 with ⟨ek, ew, ex⟩ | ⟨n2, q2⟩
      · rw [ej, ek]
      · rw [ej]
        rw [eu, ev, q'] at a1
        cases a1
        exact h.dis i k s w _ x _ g q2 q a2
    · rcases at_ k w x q2 with ⟨ek, ew, ex⟩ | ⟨n2, q2⟩
      · rw [ek]
        rw [ew, ex, q'] at a2
        cases a2
        exact h.dis j i u s v _ _ q1 g a1 q
      · exact h.dis j k u w v x b q1 q2 a1 a2
  · have hb := h.fr b u y w
    by_cases z : b = a
    · subst z
      rcases h.ow i s _ b g q with y' | y'
      · rw [y] at y'; cases y'
      · exact absurd y' w
    · rw [upd_ne z]; exact hb
  · by_cases y : b = a
    · rw [y, upd_same] at z; cases z
    · rw [upd_ne y] at z; exact h.frW b w z
  · rcases at_ j u v y with ⟨ej, eu, ev⟩ | ⟨_, y⟩
    · rw [eu, ev, q'] at a1
      cases a1
      exact h.ow i s _ _ g q
    · exact h.ow j u v b y a1
/-- what lies last is moved to place i, whose old content is given up -/
theorem Bag.move (h : Bag R e F H (B ++ [(t, u)])) {i : Nat} (hi : i < B.length) : Bag R e F H (B.set i (t, u)) := by
  have at_ : ∀ (j : Nat) (x : Sl) (v : Option V), (B.set i (t, u))[j]? = some (x, v) → (j = i ∧ x = t ∧ v = u) ∨ (j ≠ i ∧ B[j]? = some (x, v)) := fun j x v q => by
    by_cases z : i = j
    · subst z
      rw [List.getElem?_set_self hi] at q
      cases q
      exact .inl ⟨rfl, rfl, rfl⟩
    · rw [List.getElem?_set_ne z] at q
      exact .inr ⟨fun y => z y.symm, q⟩
  have gl : (B ++ [(t, u)])[B.length]? = some (t, u) := app_last
  have le : ∀ {j : Nat} {q : Sl × Option V}, B[j]? = some q → j < B.length := fun q => (List.getElem?_eq_some_iff.mp q).1
  refine ⟨h.sub, fun j x v q => ?_, fun j k x y v w a q1 q2 a1 a2 => ?_, h.fr, h.frW, fun j x v a q a1 => ?_, h.hf, h.hf0⟩
  · rcases at_ j x v q with ⟨_, rfl, rfl⟩ | ⟨_, q⟩
    · exact h.all _ _ _ gl
    · exact h.all j x v (app_get q)
  · rcases at_ j x v q1 with ⟨ej, eu, ev⟩ | ⟨n1, q1⟩
    · rcases at_ k y w q2 with ⟨ek, ew, ex⟩ | ⟨n2, q2⟩
      · rw [ej, ek]
      · rw [eu, ev] at a1
        have := h.dis _ k t y u w a gl (app_get q2) a1 a2
        exact absurd (le q2) (by omega)
    · rcases at_ k y w q2 with ⟨ek, ew, ex⟩ | ⟨n2, q2⟩
      · rw [ew, ex] at a2
        have := h.dis j _ x t v u a (app_get q1) gl a1 a2
        exact absurd (le q1) (by omega)
      · exact h.dis j k x y v w a (app_get q1) (app_get q2) a1 a2
  · rcases at_ j x v q with ⟨_, eu, ev⟩ | ⟨_, q⟩
    · rw [eu, ev] at a1
      exact h.ow _ t u a gl a1
    · exact h.ow j x v a (app_get q) a1
end
end PL
set_option Elab.async false
set_option linter.all false
set_option maxRecDepth 100000
set_option maxHeartbeats 4000000
/-! PLb: expressions by plain functions of the slots' contents. -/
namespace PL
open PySem PySem.Spec PyProof.Rows L2

abbrev PF := List Sl → Option (Sl × List Sl)
abbrev PFs := List Sl → Option (List Sl × List Sl)
abbrev PT' := List Sl → Option (Bool × List Sl)

def tmpOf : Sl → Sl
  | .pk _ => .un
  | .br _ s => s
  | s => s
/-- what a content is as a value, to be read -/
def cont (ρ : List Sl) : Sl → Option PV
  | .fz p => some p
  | .own xs => some (.lst xs)
  | .pk i => match ρ[i]? with
    | some (.fz p) => some p
    | some (.own xs) => some (.lst xs)
    | _ => none
  | _ => none
def conts (ρ : List Sl) : List Sl → Option (List PV)
  | [] => some []
  | s :: r => (cont ρ s).bind fun p => (conts ρ r).map fun ps => p :: ps

/-- x is the peeked slot's value -/
def PkOk (r : Sl) (σ : L2.St) (x : V) : Prop := ∀ i, (r = .pk i ∨ ∃ s, r = .br i s) → σ[i]? = some (some x)
theorem pk_fz {p : PV} {σ : L2.St} {x : V} : PkOk (.fz p) σ x := fun i z => by rcases z with z | ⟨_, z⟩ <;> cases z
theorem pk_own {p : List PV} {σ : L2.St} {x : V} : PkOk (.own p) σ x := fun i z => by rcases z with z | ⟨_, z⟩ <;> cases z
theorem pk_obj {c : Nat} {p : List PV} {σ : L2.St} {x : V} : PkOk (.obj c p) σ x := fun i z => by rcases z with z | ⟨_, z⟩ <;> cases z

def TEv (R : RE) (f : PF) : TE := fun σ H Q => ∃ (e : En) (F : Hp) (ρ : List Sl) (tm : Bg) (r : Sl) (ρ' : List Sl), ρ.length = σ.length ∧ Bag R e F H (ρ.zip σ ++ tm) ∧ f ρ = some (r, ρ') ∧
  ∀ x H' F', Bag R e F' H' (ρ'.zip σ ++ tm ++ [(tmpOf r, some x)]) → PkOk r σ x → Q x H'
def TTv (R : RE) (f : PT') : TT := fun σ H Q => ∃ (e : En) (F : Hp) (ρ : List Sl) (tm : Bg) (b : Bool) (ρ' : List Sl), ρ.length = σ.length ∧ Bag R e F H (ρ.zip σ ++ tm) ∧ f ρ = some (b, ρ') ∧
  ∀ H' F', Bag R e F' H' (ρ'.zip σ ++ tm) → Q b H'
def TAv (R : RE) (f : PFs) : TA := fun σ H Q => ∃ (e : En) (F : Hp) (ρ : List Sl) (tm : Bg) (rs : List Sl) (ρ' : List Sl), ρ.length = σ.length ∧ Bag R e F H (ρ.zip σ ++ tm) ∧ f ρ = some (rs, ρ') ∧
  ∀ xs H' F', Bag R e F' H' (ρ'.zip σ ++ tm ++ (rs.map tmpOf).zip (xs.map some)) → Paired (fun r x => PkOk r σ x) rs xs → Q xs H'

structure Ev (X : Cx) (R : RE) (e : Expr) (f : PF) : Prop where
  len : ∀ ρ r ρ', f ρ = some (r, ρ') → ρ'.length = ρ.length
  pe : PE X e (TEv R f)
structure Tv (X : Cx) (R : RE) (e : Expr) (f : PT') : Prop where
  len : ∀ ρ r ρ', f ρ = some (r, ρ') → ρ'.length = ρ.length
  pt : PT X e (TTv R f)
structure Av (X : Cx) (R : RE) (es : List Expr) (f : PFs) : Prop where
  len : ∀ ρ r ρ', f ρ = some (r, ρ') → ρ'.length = ρ.length
  cnt : ∀ ρ r ρ', f ρ = some (r, ρ') → r.length = es.length
  pa : PA X es (TAv R f)

section
variable {X : Cx} {e : Expr} {es : List Expr} {st : Stmt} {sts : List Stmt}
theorem pe_mono {t t' : TE} (h : PE X e t) (m : ∀ σ H Q, t' σ H Q → t σ H Q) : PE X e t' := ⟨fun pins s σ H Q I q => h.run pins s σ H Q I (m σ H Q q)⟩
theorem pt_mono {t t' : TT} (h : PT X e t) (m : ∀ σ H Q, t' σ H Q → t σ H Q) : PT X e t' := ⟨fun pins s σ H Q I q => h.run pins s σ H Q I (m σ H Q q)⟩
theorem pw_mono {t t' : TT} (h : PW X e t) (m : ∀ σ H Q, t' σ H Q → t σ H Q) : PW X e t' := ⟨fun w pins s σ H Q I q => h.run w pins s σ H Q I (m σ H Q q)⟩
theorem pa_mono {t t' : TA} (h : PA X es t) (m : ∀ σ H Q, t' σ H Q → t σ H Q) : PA X es t' := ⟨fun pos pins s σ H Q I q => h.run pos pins s σ H Q I (m σ H Q q)⟩
theorem ps_mono {t t' : TS} (h : PS X st t) (m : ∀ D σ H, t' D σ H → t D σ H) : PS X st t' := ⟨fun pins s σ H D I q => h.run pins s σ H D I (m D σ H q)⟩
theorem pss_mono {t t' : TS} (h : PSs X sts t) (m : ∀ D σ H, t' D σ H → t D σ H) : PSs X sts t' := ⟨fun pins s σ H D I q => h.run pins s σ H D I (m D σ H q)⟩
end

/-- to be read: frozen, or a list of one's own -/
def Rq (R : RE) (F H : Hp) (p : PV) (x : V) : Prop :=
  Rp R F p x ∨ ∃ a vs xs, x = .ref a ∧ p = .lst xs ∧ H a = some (.lst vs) ∧ RpL R F xs vs
theorem Rq.rp {R : RE} {F H : Hp} {p : PV} {x : V} (h : Rq R F H p x) (s : Sub F H) : Rp R H p x := by
  rcases h with h | ⟨a, vs, xs, rfl, rfl, h1, h2⟩
  · exact h.mono s
  · exact .lst h1 (h2.mono s)

section
variable {R : RE} {e : En} {F H : Hp} {B : Bg} {σ : L2.St} {ρ : List Sl} {tm : Bg}

theorem zip_get {ρ : List Sl} {σ : L2.St} {i : Nat} {s : Sl} {o : Option V} (h1 : ρ[i]? = some s) (h2 : σ[i]? = some o) : (ρ.zip σ)[i]? = some (s, o) := by
  rw [List.getElem?_zip_eq_some]; exact ⟨h1, h2⟩
theorem app_get' {B C : Bg} {q : Sl × Option V} {i : Nat} (h : B[i]? = some q) : (B ++ C)[i]? = some q := by
  rw [List.getElem?_append_left (List.getElem?_eq_some_iff.mp h).1]; exact h
theorem app_mid {B C : Bg} {p : Sl × Option V} : (B ++ p :: C)[B.length]? = some p := by
  rw [List.getElem?_append_right (Nat.le_refl _)]; simp

theorem Bag.rq_fz (h : Bag R e F H B) {i : Nat} {p : PV} {x : V} (g : B[i]? = some (.fz p, some x)) : Rq R F H p x := by
  obtain ⟨y, e1, r⟩ := h.all i _ _ g
  cases e1
  exact .inl r
theorem Bag.rq_own (h : Bag R e F H B) {i : Nat} {p : List PV} {x : V} (g : B[i]? = some (.own p, some x)) : Rq R F H (.lst p) x := by
  obtain ⟨a, vs, e1, _, h2, r⟩ := h.all i _ _ g
  cases e1
  exact .inr ⟨a, vs, p, rfl, rfl, h2, r⟩
/-- a temporary's content, read -/
theorem Bag.rq (h : Bag R e F H (ρ.zip σ ++ B)) {j : Nat} {r : Sl} {x : V} {p : PV} (g : (ρ.zip σ ++ B)[j]? = some (tmpOf r, some x)) (k : PkOk r σ x) (c : cont ρ r = some p) : Rq R F H p x := by
  cases r with
  | fz q => cases c; exact h.rq_fz g
  | own q => cases c; exact h.rq_own g
  | pk i =>
    have hs := k i (.inl rfl)
    unfold cont at c
    simp only at c
    split at c
    · rename_i q e1
      cases c
      exact h.rq_fz (app_get' (zip_get e1 hs))
    · rename_i q e1
      cases c
      exact h.rq_own (app_get' (zip_get e1 hs))
    · cases c
  | _ => cases c
theorem Rq.keep {F' H' : Hp} {p : PV} {x : V} (h : Rq R F H p x) (s : Sub F F') (k : ∀ a, x = .ref a → ∀ u, H a = some u → H' a = some u) : Rq R F' H' p x := by
  rcases h with h | ⟨a, vs, xs, rfl, rfl, h1, h2⟩
  · exact .inl (h.mono s)
  · exact .inr ⟨a, vs, xs, rfl, rfl, k a rfl _ h1, h2.mono s⟩
/-- lists and tuples, read -/
theorem Rq.lst {xs : List PV} {x : V} (h : Rq R F H (.lst xs) x) (s : Sub F H) : ∃ a vs, x = .ref a ∧ H a = some (.lst vs) ∧ RpL R F xs vs := by
  rcases h with h | ⟨a, vs, ys, rfl, e1, h1, h2⟩
  · cases h with
    | lst q r => exact ⟨_, _, rfl, s _ _ q, r⟩
  · cases e1
    exact ⟨a, vs, rfl, h1, h2⟩
theorem Rq.scr {xs : List PV} {x : V} (h : Rq R F H (.scr xs) x) (s : Sub F H) : ∃ a vs, x = .ref a ∧ SqL R.K H a vs ∧ RpL R F xs vs := by
  rcases h with h | ⟨a, vs, ys, rfl, e1, h1, h2⟩
  · cases h with
    | scr q r => exact ⟨_, _, rfl, s.sqL q, r⟩
  · cases e1
theorem Rq.tup {xs : List PV} {x : V} (h : Rq R F H (.tup xs) x) (s : Sub F H) : ∃ a vs, x = .ref a ∧ SqT R.K H a vs ∧ RpL R F xs vs := by
  rcases h with h | ⟨a, vs, ys, rfl, e1, h1, h2⟩
  · cases h with
    | tup q r => exact ⟨_, _, rfl, s.sqT q.sq, r⟩
  · cases e1
theorem Rq.int {i : Int} {x : V} (h : Rq R F H (.int i) x) : x = .int i := by
  rcases h with h | ⟨a, vs, ys, rfl, e1, h1, h2⟩
  · cases h; rfl
  · cases e1
theorem Rq.bl {i : Bool} {x : V} (h : Rq R F H (.bl i) x) : x = .bl i := by
  rcases h with h | ⟨a, vs, ys, rfl, e1, h1, h2⟩
  · cases h; rfl
  · cases e1
theorem Rq.str {i : Str} {x : V} (h : Rq R F H (.str i) x) : x = .str i := by
  rcases h with h | ⟨a, vs, ys, rfl, e1, h1, h2⟩
  · cases h; rfl
  · cases e1
theorem Rq.non {x : V} (h : Rq R F H .non x) : x = .non := by
  rcases h with h | ⟨a, vs, ys, rfl, e1, h1, h2⟩
  · cases h; rfl
  · cases e1
theorem Rq.ins {c : Nat} {xs : List PV} {x : V} (h : Rq R F H (.ins c xs) x) : Rp R F (.ins c xs) x := by
  rcases h with h | ⟨a, vs, ys, rfl, e1, h1, h2⟩
  · exact h
  · cases e1

end

/-! ### names and constants -/
/-- a name as a value: an own list is frozen by it -/
def eVar (i : Nat) : PF := fun ρ => match ρ[i]? with
  | some (.fz p) => some (.fz p, ρ)
  | some (.own xs) => some (.fz (.lst xs), ρ.set i (.fz (.lst xs)))
  | _ => none
/-- a name that is only read -/
def ePk (i : Nat) : PF := fun ρ => match ρ[i]? with
  | some (.fz p) => some (.fz p, ρ)
  | some (.own _) => some (.pk i, ρ)
  | _ => none
/-- a name lent to a call -/
def eBor (i : Nat) : PF := fun ρ => match ρ[i]? with
  | some (.fz p) => some (.fz p, ρ)
  | some (.own xs) => some (.br i (.own xs), ρ.set i .moved)
  | some (.obj c xs) => some (.br i (.obj c xs), ρ.set i .moved)
  | _ => none
/-- a name's list given away (it is not used any more) -/
def eMv (i : Nat) : PF := fun ρ => match ρ[i]? with
  | some (.fz p) => some (.fz p, ρ)
  | some (.own xs) => some (.own xs, ρ.set i .moved)
  | _ => none
def eC (p : PV) : PF := fun ρ => some (.fz p, ρ)

section
variable {X : Cx} {R : RE}
theorem zip_set {ρ : List Sl} {σ : L2.St} {i : Nat} {s : Sl} {o : Option V} (h : σ[i]? = some o) : (ρ.set i s).zip σ = (ρ.zip σ).set i (s, o) := by
  apply List.ext_getElem?
  intro j
  by_cases z : i = j
  · subst z
    by_cases hi : i < ρ.length
    · rw [List.getElem?_set_self (by
        rw [List.length_zip]
        have := (List.getElem?_eq_some_iff.mp h).1
        omega)]
      exact zip_get (List.getElem?_set_self hi) h
    · rw [List.getElem?_eq_none (by rw [List.length_zip, List.length_set]; omega), List.getElem?_eq_none (by rw [List.length_set, List.length_zip]; omega)]
  · rw [List.getElem?_set_ne z]
    cases q : (ρ.zip σ)[j]? with
    | none =>
      rw [List.getElem?_eq_none_iff] at q ⊢
      rw [List.length_zip] at q ⊢
      rw [List.length_set]
      exact q
    | some p =>
      obtain ⟨s', o'⟩ := p
      rw [List.getElem?_zip_eq_some] at q ⊢
      rw [List.getElem?_set_ne z]
      exact q
theorem app_set {B C : Bg} {i : Nat} {p : Sl × Option V} (h : i < B.length) : (B ++ C).set i p = B.set i p ++ C := by
  rw [List.set_append_left _ _ h]
theorem zip_lt {ρ : List Sl} {σ : L2.St} {i : Nat} (h1 : i < ρ.length) (h2 : ρ.length = σ.length) : i < (ρ.zip σ).length := by
  rw [List.length_zip]; omega
theorem slot_some {e : En} {F H : Hp} {ρ : List Sl} {σ : L2.St} {tm : Bg} (h : Bag R e F H (ρ.zip σ ++ tm)) (hl : ρ.length = σ.length) {i : Nat} {s : Sl} (g : ρ[i]? = some s) : ∃ o, σ[i]? = some o ∧ (ρ.zip σ ++ tm)[i]? = some (s, o) ∧ SlR R F H s o := by
  have hi := (List.getElem?_eq_some_iff.mp g).1
  have h2 : σ[i]? = some σ[i] := List.getElem?_eq_getElem (by omega)
  exact ⟨_, h2, app_get' (zip_get g h2), h.all i _ _ (app_get' (zip_get g h2))⟩

theorem ev_var {i : Nat} {x : Str} {pos : Pos} (hN : X.N[i]? = some x) (hv : Vis X.env.scope x) (hd : (x == ("__debug__" : Str)) = false := by decide) (hcd : (x == ("__classdict__" : Str)) = false := by decide) : Ev X R (.Name x pos) (eVar i) := by
  refine ⟨fun ρ r ρ' h => ?_, pe_mono (pe_var hN hv hd hcd) fun σ H Q h => ?_⟩
  · unfold eVar at h
    split at h
    · cases h; rfl
    · cases h; rw [List.length_set]
    · cases h
  · obtain ⟨e, F, ρ, tm, r, ρ', hl, hB, hf, k⟩ := h
    unfold eVar at hf
    split at hf
    · rename_i p g
      cases hf
      obtain ⟨o, h2, h3, x, rfl, h4⟩ := slot_some hB hl g
      exact ⟨x, h2, k x H F (hB.push_fz h4) pk_fz⟩
    · rename_i p g
      cases hf
      obtain ⟨o, h2, h3, h4⟩ := slot_some hB hl g
      obtain ⟨a, vs, rfl, h5, h6, h7⟩ := h4
      obtain ⟨F', s, hB'⟩ := hB.freeze h3
      have hi := (List.getElem?_eq_some_iff.mp g).1
      have h8 := hB'.all i _ _ (by rw [List.getElem?_set_self (by
        have := (List.getElem?_eq_some_iff.mp h3).1
        exact this)])
      obtain ⟨y, ey, h9⟩ := h8
      cases ey
      refine ⟨_, h2, k _ H F' ?_ pk_fz⟩
      rw [zip_set h2, ← app_set (zip_lt hi hl)]
      exact hB'.push_fz h9
    · cases hf
theorem ev_pk {i : Nat} {x : Str} {pos : Pos} (hN : X.N[i]? = some x) (hv : Vis X.env.scope x) (hd : (x == ("__debug__" : Str)) = false := by decide) (hcd : (x == ("__classdict__" : Str)) = false := by decide) : Ev X R (.Name x pos) (ePk i) := by
  refine ⟨fun ρ r ρ' h => ?_, pe_mono (pe_var hN hv hd hcd) fun σ H Q h => ?_⟩
  · unfold ePk at h
    split at h <;> cases h <;> rfl
  · obtain ⟨e, F, ρ, tm, r, ρ', hl, hB, hf, k⟩ := h
    unfold ePk at hf
    split at hf
    · rename_i p g
      cases hf
      obtain ⟨o, h2, h3, x, rfl, h4⟩ := slot_some hB hl g
      exact ⟨x, h2, k x H F (hB.push_fz h4) pk_fz⟩
    · rename_i p g
      cases hf
      obtain ⟨o, h2, h3, h4⟩ := slot_some hB hl g
      obtain ⟨a, vs, rfl, h5, h6, h7⟩ := h4
      exact ⟨_, h2, k _ H F hB.push_un fun j z => by rcases z with z | ⟨_, z⟩ <;> cases z; exact h2⟩
    · cases hf
theorem lend {e : En} {F H : Hp} {ρ : List Sl} {σ : L2.St} {tm : Bg} {s : Sl} {o : Option V} {i : Nat} (hB : Bag R e F H (ρ.zip σ ++ tm)) (hl : ρ.length = σ.length) (g : ρ[i]? = some s) (h2 : σ[i]? = some o) : Bag R e F H ((ρ.set i .moved).zip σ ++ tm ++ [(s, o)]) := by
  have hi := (List.getElem?_eq_some_iff.mp g).1
  have h3 : (ρ.zip σ ++ tm)[i]? = some (s, o) := app_get' (zip_get g h2)
  rw [zip_set h2, ← app_set (zip_lt hi hl)]
  have hb := hB.put h3 (t := .moved) trivial (fun _ z => nomatch z)
  -- the content at the end instead
  refine ⟨hB.sub, fun j t u q => ?_, fun j l t t' u u' a q1 q2 a1 a2 => ?_, hB.fr, hB.frW, fun j t u a q a1 => ?_, hB.hf, hB.hf0⟩
  · rcases get_app q with ⟨_, q⟩ | ⟨_, q⟩
    · exact hb.all j t u q
    · cases q; exact hB.all i _ _ h3
  · have nm : ∀ {j : Nat} {t : Sl} {u : Option V} {a : Addr}, ((ρ.zip σ ++ tm).set i (.moved, o))[j]? = some (t, u) → adr t u = some a → j ≠ i ∧ (ρ.zip σ ++ tm)[j]? = some (t, u) := by
      intro j t u a q z
      by_cases y : i = j
      · subst y
        rw [List.getElem?_set_self (List.getElem?_eq_some_iff.mp h3).1] at q
        cases q; cases z
      · rw [List.getElem?_set_ne y] at q
        exact ⟨fun w => y w.symm, q⟩
    rcases get_app q1 with ⟨l1, q1⟩ | ⟨l1, q1⟩
    · obtain ⟨n1, q1⟩ := nm q1 a1
      rcases get_app q2 with ⟨l2, q2⟩ | ⟨l2, q2⟩
      · obtain ⟨n2, q2⟩ := nm q2 a2
        exact hB.dis j l t t' u u' a q1 q2 a1 a2
      · cases q2
        exact absurd (hB.dis j i t s u o a q1 h3 a1 a2) n1
    · cases q1
      rcases get_app q2 with ⟨l2, q2⟩ | ⟨l2, q2⟩
      · obtain ⟨n2, q2⟩ := nm q2 a2
        exact absurd (hB.dis l i t' s u' o a q2 h3 a2 a1) n2
      · rw [l1, l2]
  · rcases get_app q with ⟨_, q⟩ | ⟨_, q⟩
    · exact hb.ow j t u a q a1
    · cases q; exact hB.ow i _ _ a h3 a1
theorem ev_bor {i : Nat} {x : Str} {pos : Pos} (hN : X.N[i]? = some x) (hv : Vis X.env.scope x) (hd : (x == ("__debug__" : Str)) = false := by decide) (hcd : (x == ("__classdict__" : Str)) = false := by decide) : Ev X R (.Name x pos) (eBor i) := by
  refine ⟨fun ρ r ρ' h => ?_, pe_mono (pe_var hN hv hd hcd) fun σ H Q h => ?_⟩
  · unfold eBor at h
    split at h
    · cases h; rfl
    · cases h; rw [List.length_set]
    · cases h; rw [List.length_set]
    · cases h
  · obtain ⟨e, F, ρ, tm, r, ρ', hl, hB, hf, k⟩ := h
    unfold eBor at hf
    split at hf
    · rename_i p g
      cases hf
      obtain ⟨o, h2, h3, x, rfl, h4⟩ := slot_some hB hl g
      exact ⟨x, h2, k x H F (hB.push_fz h4) pk_fz⟩
    · rename_i p g
      cases hf
      obtain ⟨o, h2, h3, h4⟩ := slot_some hB hl g
      obtain ⟨a, vs, rfl, h5, h6, h7⟩ := h4
      exact ⟨_, h2, k _ H F (lend hB hl g h2) fun j z => by rcases z with z | ⟨_, z⟩ <;> cases z; exact h2⟩
    · rename_i c p g
      cases hf
      obtain ⟨o, h2, h3, h4⟩ := slot_some hB hl g
      obtain ⟨a, dx, vs, rfl, h5, h6, h7⟩ := h4
      exact ⟨_, h2, k _ H F (lend hB hl g h2) fun j z => by rcases z with z | ⟨_, z⟩ <;> cases z; exact h2⟩
    · cases hf
theorem ev_mv {i : Nat} {x : Str} {pos : Pos} (hN : X.N[i]? = some x) (hv : Vis X.env.scope x) (hd : (x == ("__debug__" : Str)) = false := by decide) (hcd : (x == ("__classdict__" : Str)) = false := by decide) : Ev X R (.Name x pos) (eMv i) := by
  refine ⟨fun ρ r ρ' h => ?_, pe_mono (pe_var hN hv hd hcd) fun σ H Q h => ?_⟩
  · unfold eMv at h
    split at h
    · cases h; rfl
    · cases h; rw [List.length_set]
    · cases h
  · obtain ⟨e, F, ρ, tm, r, ρ', hl, hB, hf, k⟩ := h
    unfold eMv at hf
    split at hf
    · rename_i p g
      cases hf
      obtain ⟨o, h2, h3, x, rfl, h4⟩ := slot_some hB hl g
      exact ⟨x, h2, k x H F (hB.push_fz h4) pk_fz⟩
    · rename_i p g
      cases hf
      obtain ⟨o, h2, h3, h4⟩ := slot_some hB hl g
      obtain ⟨a, vs, rfl, h5, h6, h7⟩ := h4
      exact ⟨_, h2, k _ H F (lend hB hl g h2) pk_own⟩
    · cases hf
/-- an expression that is a plain constant -/
theorem ev_c {e : Expr} {v : V} {p : PV} (h : PE X e (tC v)) (r : ∀ F, Rp R F p v) : Ev X R e (eC p) := by
  refine ⟨fun ρ r ρ' h => by cases h; rfl, pe_mono h fun σ H Q h => ?_⟩
  obtain ⟨e, F, ρ, tm, r', ρ', hl, hB, hf, k⟩ := h
  cases hf
  exact k v H F (hB.push_fz (r F)) pk_fz
theorem ev_int {i : Int} {j : Nat} {pos : Pos} : Ev X R (.Constant (.int i) j pos) (eC (.int i)) := ev_c pe_int fun F => .int i
theorem ev_bl {i : Bool} {j : Nat} {pos : Pos} : Ev X R (.Constant (.bool i) j pos) (eC (.bl i)) := ev_c pe_bl fun F => .bl i
theorem ev_non {j : Nat} {pos : Pos} : Ev X R (.Constant .none j pos) (eC .non) := ev_c pe_non fun F => .non
theorem ev_str {i : Str} {j : Nat} {pos : Pos} : Ev X R (.Constant (.str i) j pos) (eC (.str i)) := ev_c pe_str fun F => .str i
end
end PL
set_option Elab.async false
set_option linter.all false
set_option maxRecDepth 100000
set_option maxHeartbeats 4000000
/-! PLc: operators. -/
namespace PL
open PySem PySem.Spec PyProof.Rows L2

/-- a new value: one that stays, or a list of one's own -/
inductive Vl where
  | fz (p : PV) | own (xs : List PV)
def Vl.sl : Vl → Sl
  | .fz p => .fz p
  | .own xs => .own xs
theorem tmp_sl (v : Vl) : tmpOf v.sl = v.sl := by cases v <;> rfl
theorem sl_pk (v : Vl) (σ : L2.St) (x : V) : PkOk v.sl σ x := by cases v; exact pk_fz; exact pk_own

def lineN : Nat := 16777216
theorem lineN_eq : lineN = sizeLine := by rw [sizeLine_eq]; rfl

/-! ### two operands -/
def eBin (op : PV → PV → Option Vl) (fa fb : PF) : PF := fun ρ => (fa ρ).bind fun x => (fb x.2).bind fun y => (cont y.2 x.1).bind fun p => (cont y.2 y.1).bind fun q => (op p q).map fun r => (r.sl, y.2)
def BinOk (R : RE) (op : PV → PV → Option Vl) (rd : R2) : Prop := ∀ (e : En) (F H : Hp) (B : Bg) (p q : PV) (x y : V) (r : Vl) (Q : VK), Bag R e F H B → Rq R F H p x → Rq R F H q y → op p q = some r →
  (∀ z H' F', Bag R e F' H' (B ++ [(r.sl, some z)]) → Q z H') → rd x y H Q
theorem BinOk.or {R : RE} {op op' : PV → PV → Option Vl} {rd rd' : R2} (h : BinOk R op rd) (h' : BinOk R op' rd') : BinOk R (fun p q => match op p q with | some r => some r | none => op' p q) (fun x y H Q => rd x y H Q ∨ rd' x y H Q) := by
  intro e F H B p q x y r Q hB hp hq ho k
  dsimp only at ho
  cases e1 : op p q with
  | some r' =>
    rw [e1] at ho
    cases ho
    exact .inl (h e F H B p q x y r Q hB hp hq e1 k)
  | none =>
    rw [e1] at ho
    exact .inr (h' e F H B p q x y r Q hB hp hq ho k)
section
variable {X : Cx} {R : RE} {a b : Expr} {fa fb : PF} {pos : Pos}
theorem eBin_some {op : PV → PV → Option Vl} {ρ ρ' : List Sl} {r : Sl} (h : eBin op fa fb ρ = some (r, ρ')) : ∃ r1 ρ1 r2 p q v, fa ρ = some (r1, ρ1) ∧ fb ρ1 = some (r2, ρ') ∧ cont ρ' r1 = some p ∧ cont ρ' r2 = some q ∧ op p q = some v ∧ r = v.sl := by
  unfold eBin at h
  rw [Option.bind_eq_some_iff] at h
  obtain ⟨⟨r1, ρ1⟩, h1, h⟩ := h
  rw [Option.bind_eq_some_iff] at h
  obtain ⟨⟨r2, ρ2⟩, h2, h⟩ := h
  rw [Option.bind_eq_some_iff] at h
  obtain ⟨p, h3, h⟩ := h
  rw [Option.bind_eq_some_iff] at h
  obtain ⟨q, h4, h⟩ := h
  rw [Option.map_eq_some_iff] at h
  obtain ⟨v, h5, h⟩ := h
  cases h
  exact ⟨r1, ρ1, r2, p, q, v, h1, h2, h3, h4, h5, rfl⟩
theorem bin_len {op : PV → PV → Option Vl} (la : ∀ ρ r ρ', fa ρ = some (r, ρ') → ρ'.length = ρ.length) (lb : ∀ ρ r ρ', fb ρ = some (r, ρ') → ρ'.length = ρ.length) : ∀ ρ r ρ', eBin op fa fb ρ = some (r, ρ') → ρ'.length = ρ.length := fun ρ r ρ' h => by
  obtain ⟨r1, ρ1, r2, p, q, v, h1, h2, _⟩ := eBin_some h
  exact (lb _ _ _ h2).trans (la _ _ _ h1)
/-- the reading of two operands and an operation on their values -/
theorem tOp_of {op : PV → PV → Option Vl} {rd : R2} (ho : BinOk R op rd) (la : ∀ ρ r ρ', fa ρ = some (r, ρ') → ρ'.length = ρ.length) (lb : ∀ ρ r ρ', fb ρ = some (r, ρ') → ρ'.length = ρ.length) (σ : L2.St) (H : Hp) (Q : VK)
    (h : TEv R (eBin op fa fb) σ H Q) : tOp rd (TEv R fa) (TEv R fb) σ H Q := by
  obtain ⟨e, F, ρ, tm, r, ρ', hl, hB, hf, k⟩ := h
  obtain ⟨r1, ρ1, r2, p, q, v, h1, h2, h3, h4, h5, rfl⟩ := eBin_some hf
  have l1 := la _ _ _ h1
  have l2 := lb _ _ _ h2
  refine ⟨e, F, ρ, tm, r1, ρ1, hl, hB, h1, fun x1 H1 F1 B1 k1 => ?_⟩
  rw [List.append_assoc] at B1
  refine ⟨e, F1, ρ1, tm ++ [(tmpOf r1, some x1)], r2, ρ', l1.trans hl, B1, h2, fun x2 H2 F2 B2 k2 => ?_⟩
  have hz : (ρ'.zip σ).length = σ.length := by rw [List.length_zip]; omega
  have g1 : (ρ'.zip σ ++ (tm ++ [(tmpOf r1, some x1)]) ++ [(tmpOf r2, some x2)])[(ρ'.zip σ ++ tm).length]? = some (tmpOf r1, some x1) := by
    rw [← List.append_assoc (ρ'.zip σ), List.append_assoc]; exact app_mid
  have g2 : (ρ'.zip σ ++ (tm ++ [(tmpOf r1, some x1)]) ++ [(tmpOf r2, some x2)])[(ρ'.zip σ ++ (tm ++ [(tmpOf r1, some x1)])).length]? = some (tmpOf r2, some x2) := app_last
  have q1 : Rq R F2 H2 p x1 := by
    rw [List.append_assoc] at B2 g1
    exact B2.rq g1 k1 h3
  have q2 : Rq R F2 H2 q x2 := by
    rw [List.append_assoc] at B2 g2
    exact B2.rq g2 k2 h4
  have B3 : Bag R e F2 H2 (ρ'.zip σ ++ tm) := by
    have B4 := B2.pop
    rw [← List.append_assoc] at B4
    exact B4.pop
  exact ho e F2 H2 _ p q x1 x2 v Q B3 q1 q2 h5 fun z H' F' B' => k z H' F' (by rw [tmp_sl]; exact B') (sl_pk v σ z)
theorem ev_bin {o : Operator} {op : PV → PV → Option Vl} {rd : R2} (hr : OpR X (binaryOp o) rd) (ho : BinOk R op rd) (ha : Ev X R a fa) (hb : Ev X R b fb) : Ev X R (.BinOp a o b pos) (eBin op fa fb) :=
  ⟨bin_len ha.len hb.len, pe_mono (pe_op hr ha.pe hb.pe) (tOp_of ho ha.len hb.len)⟩
theorem ev_cmp {o : CmpOp} {op : PV → PV → Option Vl} {rd : R2} (hr : OpR X (compareOp o) rd) (ho : BinOk R op rd) (ha : Ev X R a fa) (hb : Ev X R b fb) (hm : behindInMarks o b = false) : Ev X R (.Compare a [o] [b] pos) (eBin op fa fb) :=
  ⟨bin_len ha.len hb.len, pe_mono (pe_cmpR hr ha.pe hb.pe hm) (tOp_of ho ha.len hb.len)⟩
/-- a value that is a bool, as a test -/
def tOf (f : PF) : PT' := fun ρ => (f ρ).bind fun x => match x.1 with
  | .fz (.bl b) => some (b, x.2)
  | _ => none
theorem tOf_some {f : PF} {ρ ρ' : List Sl} {b : Bool} (h : tOf f ρ = some (b, ρ')) : f ρ = some (.fz (.bl b), ρ') := by
  unfold tOf at h
  rw [Option.bind_eq_some_iff] at h
  obtain ⟨⟨r, ρ1⟩, h1, h⟩ := h
  cases r with
  | fz p =>
    cases p with
    | bl b' => cases h; exact h1
    | _ => cases h
  | _ => cases h
theorem tTest_of {f : PF} (σ : L2.St) (H : Hp) (Q : Bool → Hp → Prop) (h : TTv R (tOf f) σ H Q) : TEv R f σ H fun x H' => ∃ k, x = .bl k ∧ Q k H' := by
  obtain ⟨e, F, ρ, tm, b, ρ', hl, hB, hf, k⟩ := h
  refine ⟨e, F, ρ, tm, _, ρ', hl, hB, tOf_some hf, fun x H' F' B' _ => ⟨b, ?_, k H' F' B'.pop⟩⟩
  have := B'.rq_fz (x := x) (p := .bl b) app_last
  exact this.bl
theorem tOf_len {f : PF} (l : ∀ ρ r ρ', f ρ = some (r, ρ') → ρ'.length = ρ.length) : ∀ ρ r ρ', tOf f ρ = some (r, ρ') → ρ'.length = ρ.length := fun ρ r ρ' h => l _ _ _ (tOf_some h)
theorem tv_val (h : Ev X R a fa) (he : ∀ whole, isTrue a X.env whole = (do let v ← whole; standAt a.pos; holding [v] (truthy v)) := by intro _; rfl) : Tv X R a (tOf fa) :=
  ⟨tOf_len h.len, pt_mono (pt_val h.pe he) fun σ H Q q => tTest_of σ H Q q⟩
theorem tv_cmp {o : CmpOp} {op : PV → PV → Option Vl} {rd : R2} (hr : OpR X (compareOp o) rd) (ho : BinOk R op rd) (ha : Ev X R a fa) (hb : Ev X R b fb) (hm : behindInMarks o b = false) : Tv X R (.Compare a [o] [b] pos) (tOf (eBin op fa fb)) :=
  ⟨tOf_len (bin_len ha.len hb.len), pt_mono (pt_cmpR hr ha.pe hb.pe hm) fun σ H Q q => tOp_of ho ha.len hb.len σ H _ (tTest_of σ H Q q)⟩
end

/-! ### the operations -/
def opInt (C : Int → Int → Bool) (g : Int → Int → Int) : PV → PV → Option Vl
  | .int i, .int j => if C i j = true then some (.fz (.int (g i j))) else none
  | _, _ => none
def opCmp (g : Int → Int → Bool) : PV → PV → Option Vl
  | .int i, .int j => some (.fz (.bl (g i j)))
  | _, _ => none
theorem bin_int {R : RE} {C : Int → Int → Bool} {D : Int → Int → Prop} {g : Int → Int → Int} (hc : ∀ i j, C i j = true → D i j) : BinOk R (opInt C g) (rI D fun i j => .int (g i j)) := by
  intro e F H B p q x y r Q hB hp hq ho k
  unfold opInt at ho
  split at ho
  · rename_i i j
    split at ho
    · rename_i c
      cases ho
      exact ⟨i, j, hp.int, hq.int, hc i j c, k _ H F (hB.push_fz (.int _))⟩
    · cases ho
  · cases ho
theorem bin_int0 {R : RE} {g : Int → Int → Int} : BinOk R (opInt (fun _ _ => true) g) (rI0 fun i j => .int (g i j)) := by
  intro e F H B p q x y r Q hB hp hq ho k
  unfold opInt at ho
  split at ho
  · rename_i i j
    cases ho
    exact ⟨i, j, hp.int, hq.int, k _ H F (hB.push_fz (.int _))⟩
  · cases ho
theorem bin_cmp {R : RE} {g : Int → Int → Bool} : BinOk R (opCmp g) (rI0 fun i j => .bl (g i j)) := by
  intro e F H B p q x y r Q hB hp hq ho k
  unfold opCmp at ho
  split at ho
  · rename_i i j
    cases ho
    exact ⟨i, j, hp.int, hq.int, k _ H F (hB.push_fz (.bl _))⟩
  · cases ho
def opCatT : PV → PV → Option Vl
  | .tup xs, .tup ys => if xs.length + ys.length ≤ lineN then some (.fz (.tup (xs ++ ys))) else none
  | _, _ => none
def opCatL : PV → PV → Option Vl
  | .lst xs, .lst ys => if xs.length + ys.length ≤ lineN then some (.own (xs ++ ys)) else none
  | _, _ => none
def opCatS : PV → PV → Option Vl
  | .str xs, .str ys => if xs.length + ys.length ≤ lineN then some (.fz (.str (xs ++ ys))) else none
  | _, _ => none
theorem RpL.nil_iff {R : RE} {F : Hp} {ps : List PV} {vs : List V} (h : RpL R F ps vs) : vs = [] ↔ ps = [] := by
  cases h <;> simp
theorem bin_catT {R : RE} : BinOk R opCatT (rCatA R.K) := by
  intro e F H B p q x y r Q hB hp hq ho k
  unfold opCatT at ho
  split at ho
  · rename_i xs ys
    split at ho
    · rename_i c
      cases ho
      have hp' := hp; have hq' := hq
      obtain ⟨a, vs, rfl, h1, r1⟩ := hp.tup hB.sub
      obtain ⟨b, us, rfl, h2, r2⟩ := hq.tup hB.sub
      refine ⟨a, b, vs, us, rfl, rfl, h1, h2, by rw [← r1.length, ← r2.length, ← lineN_eq]; exact c, fun z => ?_, fun z1 z2 => ?_, fun z1 z2 p n => ?_⟩
      · rw [r1.nil_iff] at z
        subst z
        rcases hq' with h | ⟨_, _, _, _, z, _⟩
        · exact k _ H F (hB.push_fz h)
        · cases z
      · rw [r2.nil_iff] at z2
        subst z2
        rcases hp' with h | ⟨_, _, _, _, z, _⟩
        · exact k _ H F (by rw [List.append_nil]; exact hB.push_fz h)
        · cases z
      · exact k _ _ _ (hB.new_tup n (r1.append r2))
    · cases ho
  · cases ho
theorem bin_catL {R : RE} : BinOk R opCatL rCat := by
  intro e F H B p q x y r Q hB hp hq ho k
  unfold opCatL at ho
  split at ho
  · rename_i xs ys
    split at ho
    · rename_i c
      cases ho
      obtain ⟨a, vs, rfl, h1, r1⟩ := hp.lst hB.sub
      obtain ⟨b, us, rfl, h2, r2⟩ := hq.lst hB.sub
      refine ⟨a, b, vs, us, rfl, rfl, h1, h2, by rw [← r1.length, ← r2.length, ← lineN_eq]; exact c, fun p n => k _ _ _ (hB.new_lst n (r1.append r2))⟩
    · cases ho
  · cases ho
theorem bin_catS {R : RE} : BinOk R opCatS (fun x y H Q => ∃ i j, x = .str i ∧ y = .str j ∧ i.length + j.length ≤ sizeLine ∧ Q (.str (i ++ j)) H) := by
  intro e F H B p q x y r Q hB hp hq ho k
  unfold opCatS at ho
  split at ho
  · rename_i xs ys
    split at ho
    · rename_i c
      cases ho
      exact ⟨xs, ys, hp.str, hq.str, by rw [← lineN_eq]; exact c, k _ H F (hB.push_fz (.str _))⟩
    · cases ho
  · cases ho
/-- x + y, whatever they are -/
def opAdd : PV → PV → Option Vl
  | .int i, .int j => some (.fz (.int (i + j)))
  | .tup xs, .tup ys => if xs.length + ys.length ≤ lineN then some (.fz (.tup (xs ++ ys))) else none
  | .lst xs, .lst ys => if xs.length + ys.length ≤ lineN then some (.own (xs ++ ys)) else none
  | .str xs, .str ys => if xs.length + ys.length ≤ lineN then some (.fz (.str (xs ++ ys))) else none
  | _, _ => none
theorem BinOk.imp {R : RE} {op op' : PV → PV → Option Vl} {rd : R2} (h : BinOk R op rd) (i : ∀ p q r, op' p q = some r → op p q = some r) : BinOk R op' rd := by
  intro e F H B p q x y r Q hB hp hq ho k
  exact h e F H B p q x y r Q hB hp hq (i p q r ho) k
theorem opr_add {X : Cx} : OpR X (binaryOp .Add) (fun x y H Q => rI0 (fun i j => .int (i + j)) x y H Q ∨ (rCatA X.K x y H Q ∨ (rCat x y H Q ∨ ∃ i j, x = .str i ∧ y = .str j ∧ i.length + j.length ≤ sizeLine ∧ Q (.str (i ++ j)) H))) :=
  op_add.or (op_catA.or (op_cat.or op_add_str))
theorem bin_add {R : RE} : BinOk R opAdd (fun x y H Q => rI0 (fun i j => .int (i + j)) x y H Q ∨ (rCatA R.K x y H Q ∨ (rCat x y H Q ∨ ∃ i j, x = .str i ∧ y = .str j ∧ i.length + j.length ≤ sizeLine ∧ Q (.str (i ++ j)) H))) := by
  refine (bin_int0 (g := fun i j => i + j).or (bin_catT.or (bin_catL.or bin_catS))).imp fun p q r h => ?_
  unfold opAdd at h
  split at h
  · exact h
  all_goals first
    | cases h
    | (split at h
       · rename_i c
         simp only [opInt, opCatT, opCatL, opCatS, if_pos c]
         exact h
       · cases h)
theorem ev_add {X : Cx} {R : RE} (hK : R.K = X.K) {a b : Expr} {fa fb : PF} {pos : Pos} (ha : Ev X R a fa) (hb : Ev X R b fb) : Ev X R (.BinOp a .Add b pos) (eBin opAdd fa fb) :=
  ev_bin (by rw [hK]; exact opr_add) bin_add ha hb
def opSub : PV → PV → Option Vl
  | .int i, .int j => some (.fz (.int (i - j)))
  | _, _ => none
theorem ev_sub {X : Cx} {R : RE} {a b : Expr} {fa fb : PF} {pos : Pos} (ha : Ev X R a fa) (hb : Ev X R b fb) : Ev X R (.BinOp a .Sub b pos) (eBin opSub fa fb) :=
  ev_bin op_sub ((bin_int0 (g := fun i j => i - j)).imp fun p q r h => by unfold opSub at h; split at h <;> first | exact h | cases h) ha hb
/-- products: of ints one of which is small, or both not too great; of a list and an int, a tuple and an int -/
def mulOk (i j : Int) : Bool := decide (-(2 ^ 64) < i ∧ i < 2 ^ 64) || decide (-(2 ^ 64) < j ∧ j < 2 ^ 64) || decide (i.natAbs.log2 + j.natAbs.log2 < 1000000)
def opMul : PV → PV → Option Vl
  | .int i, .int j => if mulOk i j = true then some (.fz (.int (i * j))) else none
  | .lst xs, .int k => if k < 2 ^ 63 ∧ -(2 ^ 63) ≤ k ∧ xs.length * k.toNat ≤ lineN then some (.own (List.replicate k.toNat xs).flatten) else none
  | .tup xs, .int k => if 2 ≤ k ∧ k ≤ 1000 ∧ xs.length ≤ 1000 ∧ xs.isEmpty = false then some (.fz (.tup (List.replicate k.toNat xs).flatten)) else none
  | _, _ => none
theorem opr_mul {X : Cx} : OpR X (binaryOp .Mult) (fun x y H Q => rI CMul (fun i j => .int (i * j)) x y H Q ∨ (rI CMulW (fun i j => .int (i * j)) x y H Q ∨ (rRep x y H Q ∨ rRepT X.K x y H Q))) := op_mul.or (op_mulW.or (op_rep.or op_repT))
theorem bin_mul {R : RE} : BinOk R opMul (fun x y H Q => rI CMul (fun i j => .int (i * j)) x y H Q ∨ (rI CMulW (fun i j => .int (i * j)) x y H Q ∨ (rRep x y H Q ∨ rRepT R.K x y H Q))) := by
  intro e F H B p q x y r Q hB hp hq ho k
  unfold opMul at ho
  split at ho
  · rename_i i j
    split at ho
    · rename_i c
      cases ho
      have fin : Q (.int (i * j)) H := k _ H F (hB.push_fz (.int _))
      unfold mulOk at c
      simp only [Bool.or_eq_true, decide_eq_true_eq] at c
      rcases c with (c | c) | c
      · exact .inl ⟨i, j, hp.int, hq.int, .inl c, fin⟩
      · exact .inl ⟨i, j, hp.int, hq.int, .inr c, fin⟩
      · exact .inr (.inl ⟨i, j, hp.int, hq.int, c, fin⟩)
    · cases ho
  · rename_i xs j
    split at ho
    · rename_i c
      cases ho
      obtain ⟨a, vs, rfl, h1, r1⟩ := hp.lst hB.sub
      exact .inr (.inr (.inl ⟨a, j, vs, rfl, hq.int, h1, c.2.1, c.1, by rw [← r1.length, ← lineN_eq]; exact c.2.2, fun p n => k _ _ _ (hB.new_lst n (r1.rep _))⟩))
    · cases ho
  · rename_i xs j
    split at ho
    · rename_i c
      cases ho
      obtain ⟨a, vs, rfl, h1, r1⟩ := hp.tup hB.sub
      exact .inr (.inr (.inr ⟨a, j, vs, rfl, hq.int, h1, (fun z => by rw [r1.nil_iff] at z; rw [z] at c; cases c.2.2.2), c.1, c.2.1, by rw [← r1.length]; exact c.2.2.1, fun p n => k _ _ _ (hB.new_tup n (r1.rep _))⟩))
    · cases ho
  · cases ho
theorem ev_mul {X : Cx} {R : RE} (hK : R.K = X.K) {a b : Expr} {fa fb : PF} {pos : Pos} (ha : Ev X R a fa) (hb : Ev X R b fb) : Ev X R (.BinOp a .Mult b pos) (eBin opMul fa fb) :=
  ev_bin (by rw [hK]; exact opr_mul) bin_mul ha hb
def opMod : PV → PV → Option Vl
  | .int i, .int j => if 0 < j then some (.fz (.int (i % j))) else none
  | _, _ => none
theorem ev_mod {X : Cx} {R : RE} {a b : Expr} {fa fb : PF} {pos : Pos} (ha : Ev X R a fa) (hb : Ev X R b fb) : Ev X R (.BinOp a .Mod b pos) (eBin opMod fa fb) :=
  ev_bin op_mod ((bin_int (C := fun _ j => decide (0 < j)) (D := fun _ j => 0 < j) (g := fun i j => i % j) fun i j c => of_decide_eq_true c).imp fun p q r h => by
    unfold opMod at h
    split at h
    · split at h
      · rename_i c; simp only [opInt, decide_eq_true c]; exact h
      · cases h
    · cases h) ha hb
def opFdiv : PV → PV → Option Vl
  | .int i, .int j => if 0 < j ∧ j.natAbs.log2 < 9000 then some (.fz (.int (i / j))) else none
  | _, _ => none
theorem ev_fdiv {X : Cx} {R : RE} {a b : Expr} {fa fb : PF} {pos : Pos} (ha : Ev X R a fa) (hb : Ev X R b fb) : Ev X R (.BinOp a .FloorDiv b pos) (eBin opFdiv fa fb) :=
  ev_bin op_fdivW ((bin_int (C := fun _ j => decide (0 < j ∧ j.natAbs.log2 < 9000)) (D := CDivW) (g := fun i j => i / j) fun i j c => show 0 < j ∧ j.natAbs.log2 < 9000 from of_decide_eq_true c).imp fun p q r h => by
    unfold opFdiv at h
    split at h
    · split at h
      · rename_i c; simp only [opInt, decide_eq_true c]; exact h
      · cases h
    · cases h) ha hb
def opPow : PV → PV → Option Vl
  | .int i, .int j => if 0 ≤ j ∧ j ≤ 1000000 ∧ i.natAbs < 2 ^ 64 then some (.fz (.int (i ^ j.toNat))) else none
  | _, _ => none
theorem ev_pow {X : Cx} {R : RE} {a b : Expr} {fa fb : PF} {pos : Pos} (ha : Ev X R a fa) (hb : Ev X R b fb) : Ev X R (.BinOp a .Pow b pos) (eBin opPow fa fb) :=
  ev_bin op_pow ((bin_int (C := fun i j => decide (0 ≤ j ∧ j ≤ 1000000 ∧ i.natAbs < 2 ^ 64)) (D := CPow) (g := fun i j => i ^ j.toNat) fun i j c => show 0 ≤ j ∧ j ≤ 1000000 ∧ i.natAbs < 2 ^ 64 from of_decide_eq_true c).imp fun p q r h => by
    unfold opPow at h
    split at h
    · split at h
      · rename_i c; simp only [opInt, decide_eq_true c]; exact h
      · cases h
    · cases h) ha hb

/-! ### == -/
mutual
def toD : PV → PyData
  | .non => .none
  | .bl b => .bool b
  | .int i => .int i
  | .str x => .str x
  | .tup xs => .tuple (toDs xs)
  | .lst xs => .list (toDs xs)
  | .scr xs => .list (toDs xs)
  | .ins _ _ => .none
  | .ty _ => .none
  | .cls _ => .none
  | .dct _ _ => .none
def toDs : List PV → List PyData
  | [] => []
  | x :: xs => toD x :: toDs xs
end
mutual
/-- data without instances, no deeper than n -/
def datN : Nat → PV → Bool
  | _, .non => true
  | _, .bl _ => true
  | _, .int _ => true
  | _, .str x => PyData.strOk x
  | n + 1, .tup xs => datNs n xs
  | n + 1, .lst xs => datNs n xs
  | _, _ => false
def datNs : Nat → List PV → Bool
  | _, [] => true
  | n, x :: xs => datN n x && datNs n xs
end
mutual
/-- equal as Python has it -/
def eqP : PV → PV → Bool
  | .non, .non => true
  | .bl a, .bl b => a == b
  | .bl a, .int j => (if a then 1 else 0) == j
  | .int i, .bl b => i == (if b then 1 else 0)
  | .int i, .int j => i == j
  | .str x, .str y => x == y
  | .lst xs, .lst ys => eqPs xs ys
  | .tup xs, .tup ys => eqPs xs ys
  | _, _ => false
def eqPs : List PV → List PV → Bool
  | [], [] => true
  | x :: xs, y :: ys => eqP x y && eqPs xs ys
  | _, _ => false
end
theorem datNs_all (n : Nat) : ∀ xs : List PV, datNs n xs = xs.all (datN n)
  | [] => by simp [datNs]
  | x :: xs => by rw [datNs, datNs_all n xs, List.all_cons]
theorem eqv_mixed : True := trivial
mutual
theorem eqv_toD : ∀ (n m : Nat) (p q : PV), datN n p = true → datN m q = true → PyData.eqv (toD p) (toD q) = eqP p q
  | n, m, .non, q, h, k => by
    cases q <;> first | (simp [datN] at k; done) | rfl | (simp only [toD, PyData.eqv, eqP]; done)
  | n, m, .bl b, q, h, k => by
    cases q <;> first | (simp [datN] at k; done) | rfl | (simp only [toD, PyData.eqv, eqP]; done)
  | n, m, .int i, q, h, k => by
    cases q <;> first | (simp [datN] at k; done) | rfl | (simp only [toD, PyData.eqv, eqP]; done)
  | n, m, .str x, q, h, k => by
    cases q <;> first | (simp [datN] at k; done) | rfl | (simp only [toD, PyData.eqv, eqP]; done)
  | 0, m, .tup xs, q, h, k => by simp [datN] at h
  | 0, m, .lst xs, q, h, k => by simp [datN] at h
  | n + 1, m, .tup xs, q, h, k => by
    cases q with
    | tup ys =>
      cases m with
      | zero => simp [datN] at k
      | succ m =>
        rw [datN] at h k
        rw [toD, toD, PyData.eqv, eqP]
        exact eqv_toDs n m xs ys h k
    | _ => first | (simp [datN] at k; done) | rfl | (simp only [toD, PyData.eqv, eqP]; done)
  | n + 1, m, .lst xs, q, h, k => by
    cases q with
    | lst ys =>
      cases m with
      | zero => simp [datN] at k
      | succ m =>
        rw [datN] at h k
        rw [toD, toD, PyData.eqv, eqP]
        exact eqv_toDs n m xs ys h k
    | _ => first | (simp [datN] at k; done) | rfl | (simp only [toD, PyData.eqv, eqP]; done)
  | n, m, .scr xs, q, h, k => by simp [datN] at h
  | n, m, .ins c xs, q, h, k => by simp [datN] at h
  | n, m, .ty t, q, h, k => by simp [datN] at h
  | n, m, .cls c, q, h, k => by simp [datN] at h
theorem eqv_toDs : ∀ (n m : Nat) (p q : List PV), datNs n p = true → datNs m q = true → PyData.eqvAll (toDs p) (toDs q) = eqPs p q
  | n, m, [], [], h, k => rfl
  | n, m, [], y :: ys, h, k => rfl
  | n, m, x :: xs, [], h, k => rfl
  | n, m, x :: xs, y :: ys, h, k => by
    rw [datNs, Bool.and_eq_true] at h k
    rw [toDs, toDs, PyData.eqvAll, eqPs, eqv_toD n m x y h.1 k.1, eqv_toDs n m xs ys h.2 k.2]
end
mutual
theorem canLay_toD : ∀ (n : Nat) (p : PV), datN n p = true → (toD p).canLay0 = true
  | n, .non, h => by simp only [toD, PyData.canLay0]
  | n, .bl b, h => by simp only [toD, PyData.canLay0]
  | n, .int i, h => by simp only [toD, PyData.canLay0]
  | n, .str x, h => by rw [toD, PyData.canLay0]; rw [datN] at h; exact h
  | 0, .tup xs, h => by simp [datN] at h
  | 0, .lst xs, h => by simp [datN] at h
  | n + 1, .tup xs, h => by rw [datN] at h; rw [toD, PyData.canLay0]; exact canLay_toDs n xs h
  | n + 1, .lst xs, h => by rw [datN] at h; rw [toD, PyData.canLay0]; exact canLay_toDs n xs h
  | n, .scr xs, h => by simp [datN] at h
  | n, .ins c xs, h => by simp [datN] at h
  | n, .ty t, h => by simp [datN] at h
  | n, .cls c, h => by simp [datN] at h
theorem canLay_toDs : ∀ (n : Nat) (p : List PV), datNs n p = true → PyData.canLayAll0 (toDs p) = true
  | n, [], h => by simp only [toDs, PyData.canLayAll0]
  | n, x :: xs, h => by
    rw [datNs, Bool.and_eq_true] at h
    rw [toDs, PyData.canLayAll0, canLay_toD n x h.1, canLay_toDs n xs h.2]; rfl
end
mutual
theorem depth_toD : ∀ (n : Nat) (p : PV), datN n p = true → (toD p).depth ≤ n + 1
  | n, .non, h => by simp only [toD, PyData.depth]; omega
  | n, .bl b, h => by simp only [toD, PyData.depth]; omega
  | n, .int i, h => by simp only [toD, PyData.depth]; omega
  | n, .str x, h => by simp only [toD, PyData.depth]; omega
  | 0, .tup xs, h => by simp [datN] at h
  | 0, .lst xs, h => by simp [datN] at h
  | n + 1, .tup xs, h => by rw [datN] at h; rw [toD, PyData.depth]; have := depth_toDs n xs h; omega
  | n + 1, .lst xs, h => by rw [datN] at h; rw [toD, PyData.depth]; have := depth_toDs n xs h; omega
  | n, .scr xs, h => by simp [datN] at h
  | n, .ins c xs, h => by simp [datN] at h
  | n, .ty t, h => by simp [datN] at h
  | n, .cls c, h => by simp [datN] at h
theorem depth_toDs : ∀ (n : Nat) (p : List PV), datNs n p = true → PyData.depthAll (toDs p) ≤ n + 1
  | n, [], h => by simp only [toDs, PyData.depthAll]; omega
  | n, x :: xs, h => by
    rw [datNs, Bool.and_eq_true] at h
    rw [toDs, PyData.depthAll]
    have h1 := depth_toD n x h.1
    have h2 := depth_toDs n xs h.2
    omega
end
mutual
theorem dp_of {R : RE} {F H : Hp} (s : Sub F H) : ∀ (n : Nat) (p : PV) (x : V), datN n p = true → Rp R F p x → Dp R.K H x (toD p)
  | n, .non, _, h, r => by cases r; exact .non
  | n, .bl b, _, h, r => by cases r; exact .bl b
  | n, .int i, _, h, r => by cases r; exact .int i
  | n, .str x, _, h, r => by cases r; exact .str x
  | 0, .tup xs, _, h, r => by simp [datN] at h
  | 0, .lst xs, _, h, r => by simp [datN] at h
  | n + 1, .tup xs, _, h, r => by
    rw [datN] at h
    cases r with
    | tup q r => rw [toD]; exact .tup (s.sqT q.sq) (dps_of s n xs _ h r)
  | n + 1, .lst xs, _, h, r => by
    rw [datN] at h
    cases r with
    | lst q r => rw [toD]; exact .lst (SqL.of (s _ _ q)) (dps_of s n xs _ h r)
  | n, .scr xs, _, h, r => by simp [datN] at h
  | n, .ins c xs, _, h, r => by simp [datN] at h
  | n, .ty t, _, h, r => by simp [datN] at h
  | n, .cls c, _, h, r => by simp [datN] at h
theorem dps_of {R : RE} {F H : Hp} (s : Sub F H) : ∀ (n : Nat) (p : List PV) (x : List V), datNs n p = true → RpL R F p x → DpAll R.K H x (toDs p)
  | n, [], _, h, r => by cases r; exact .nil
  | n, x :: xs, _, h, r => by
    rw [datNs, Bool.and_eq_true] at h
    cases r with
    | cons q r => exact .cons (dp_of s n x _ h.1 q) (dps_of s n xs _ h.2 r)
end
theorem shaped_toD {p : PV} (h : datN 60 p = true) : SeqAt.shaped (toD p) = true := by
  unfold SeqAt.shaped
  have h1 := depth_toD 60 p h
  rw [canLay_toD 60 p h, decide_eq_true (by omega)]; rfl
theorem Rq.dp {R : RE} {F H : Hp} {p : PV} {x : V} (h : Rq R F H p x) (s : Sub F H) (d : datN 60 p = true) : Dp R.K H x (toD p) := dp_of Sub.refl 60 p x d (h.rp s)

def opEq : PV → PV → Option Vl := fun p q => if datN 60 p = true ∧ datN 60 q = true then some (.fz (.bl (eqP p q))) else none
def opNe : PV → PV → Option Vl := fun p q => if datN 60 p = true ∧ datN 60 q = true then some (.fz (.bl (!eqP p q))) else none
theorem bin_eq {R : RE} : BinOk R opEq (rEqD R.K) := by
  intro e F H B p q x y r Q hB hp hq ho k
  unfold opEq at ho
  split at ho
  · rename_i c
    cases ho
    refine ⟨_, _, hp.dp hB.sub c.1, hq.dp hB.sub c.2, shaped_toD c.1, shaped_toD c.2, ?_⟩
    rw [eqv_toD 60 60 p q c.1 c.2]
    exact k _ H F (hB.push_fz (.bl _))
  · cases ho
theorem bin_ne {R : RE} : BinOk R opNe (rNeD R.K) := by
  intro e F H B p q x y r Q hB hp hq ho k
  unfold opNe at ho
  split at ho
  · rename_i c
    cases ho
    refine ⟨_, _, hp.dp hB.sub c.1, hq.dp hB.sub c.2, shaped_toD c.1, shaped_toD c.2, ?_⟩
    rw [eqv_toD 60 60 p q c.1 c.2]
    exact k _ H F (hB.push_fz (.bl _))
  · cases ho
end PL
set_option Elab.async false
set_option linter.all false
set_option maxRecDepth 100000
set_option maxHeartbeats 4000000
/-! PLd: comparisons, truth, indices, slices, displays, built-in functions. -/
namespace PL
open PySem PySem.Spec PyProof.Rows L2

def opLt : PV → PV → Option Vl := opCmp fun i j => decide (i < j)
def opLe : PV → PV → Option Vl := opCmp fun i j => decide (i ≤ j)
def opGt : PV → PV → Option Vl := opCmp fun i j => decide (j < i)
def opGe : PV → PV → Option Vl := opCmp fun i j => decide (j ≤ i)
theorem bin_lt {R : RE} : BinOk R opLt (rI0 fun i j => .bl (decide (i < j))) := bin_cmp
theorem bin_le {R : RE} : BinOk R opLe (rI0 fun i j => .bl (decide (i ≤ j))) := bin_cmp
theorem bin_gt {R : RE} : BinOk R opGt (rI0 fun i j => .bl (decide (j < i))) := bin_cmp
theorem bin_ge {R : RE} : BinOk R opGe (rI0 fun i j => .bl (decide (j ≤ i))) := bin_cmp
def isNon : PV → Bool
  | .non => true
  | _ => false
theorem Rp.isNon {R : RE} {F : Hp} {p : PV} {x : V} (h : Rp R F p x) : decide (x = .non) = isNon p := by
  cases h <;> simp [PL.isNon]
theorem Rq.isNon {R : RE} {F H : Hp} {p : PV} {x : V} (h : Rq R F H p x) (s : Sub F H) : decide (x = .non) = PL.isNon p := (h.rp s).isNon
def opIs : PV → PV → Option Vl := fun p q => match q with
  | .non => some (.fz (.bl (isNon p)))
  | _ => none
def opIsNot : PV → PV → Option Vl := fun p q => match q with
  | .non => some (.fz (.bl (!isNon p)))
  | _ => none
theorem bin_is {R : RE} : BinOk R opIs (fun x y H Q => y = .non ∧ Q (.bl (decide (x = .non))) H) := by
  intro e F H B p q x y r Q hB hp hq ho k
  unfold opIs at ho
  split at ho
  · cases ho
    exact ⟨hq.non, k _ H F (by rw [hp.isNon hB.sub]; exact hB.push_fz (.bl _))⟩
  · cases ho
theorem bin_isNot {R : RE} : BinOk R opIsNot (fun x y H Q => y = .non ∧ Q (.bl (!decide (x = .non))) H) := by
  intro e F H B p q x y r Q hB hp hq ho k
  unfold opIsNot at ho
  split at ho
  · cases ho
    exact ⟨hq.non, k _ H F (by rw [hp.isNon hB.sub]; exact hB.push_fz (.bl _))⟩
  · cases ho
/-- flat values -/
def flatP : PV → Bool
  | .non => true
  | .bl _ => true
  | .int _ => true
  | .str _ => true
  | _ => false
theorem flat_rp {R : RE} {F : Hp} {p : PV} {x : V} (h : Rp R F p x) (f : flatP p = true) : flatV x = true := by
  cases h <;> first | rfl | cases f
theorem eqV_rp {R : RE} {F : Hp} {p q : PV} {x y : V} (h : Rp R F p x) (k : Rp R F q y) (f : flatP p = true) (g : flatP q = true) : eqV x y = eqP p q := by
  cases h <;> first
    | exact absurd f Bool.false_ne_true
    | (cases k <;> first | exact absurd g Bool.false_ne_true | rfl | (simp only [eqV, eqP]))
theorem flat_rpl {R : RE} {F : Hp} : ∀ {ps : List PV} {xs : List V}, RpL R F ps xs → ps.all flatP = true → xs.all flatV = true
  | _, _, .nil, _ => rfl
  | _, _, .cons q r, h => by
    rw [List.all_cons, Bool.and_eq_true] at h ⊢
    exact ⟨flat_rp q h.1, flat_rpl r h.2⟩
theorem inV_rpl {R : RE} {F : Hp} {p : PV} {x : V} (hp : Rp R F p x) (f : flatP p = true) : ∀ {ps : List PV} {xs : List V}, RpL R F ps xs → ps.all flatP = true → (xs.any fun y => eqV y x) = ps.any fun z => eqP z p
  | _, _, .nil, _ => rfl
  | _, _, .cons q r, h => by
    rw [List.all_cons, Bool.and_eq_true] at h
    rw [List.any_cons, List.any_cons, eqV_rp q hp h.1 f, inV_rpl hp f r h.2]
theorem any_toDs (n : Nat) (p : PV) (hp : datN n p = true) : ∀ (m : Nat) (qs : List PV), datNs m qs = true → ((toDs qs).any fun z => PyData.eqv z (toD p)) = qs.any fun z => eqP z p
  | m, [], _ => rfl
  | m, q :: qs, h => by
    rw [datNs, Bool.and_eq_true] at h
    rw [toDs, List.any_cons, List.any_cons, eqv_toD m n q p h.1 hp, any_toDs n p hp m qs h.2]
def inP (p q : PV) : Option Bool := match q with
  | .lst qs => if datN 60 p = true ∧ datNs 59 qs = true then some (qs.any fun z => eqP z p) else none
  | .tup qs => if flatP p = true ∧ qs.all flatP = true then some (qs.any fun z => eqP z p) else none
  | _ => none
def opIn : PV → PV → Option Vl := fun p q => (inP p q).map fun b => .fz (.bl b)
def opNotIn : PV → PV → Option Vl := fun p q => (inP p q).map fun b => .fz (.bl (!b))
theorem bin_in {R : RE} : BinOk R opIn (fun x y H Q => rInD R.K x y H Q ∨ rIn R.K false x y H Q) := by
  intro e F H B p q x y r Q hB hp hq ho k
  unfold opIn at ho
  rw [Option.map_eq_some_iff] at ho
  obtain ⟨b, hb, rfl⟩ := ho
  unfold inP at hb
  split at hb
  · rename_i qs
    split at hb
    · rename_i c
      cases hb
      have d2 : datN 60 (.lst qs) = true := by rw [datN]; exact c.2
      refine .inl ⟨_, toDs qs, hp.dp hB.sub c.1, ?_, shaped_toD c.1, ?_, ?_⟩
      · have := hq.dp hB.sub d2
        rw [toD] at this
        exact this
      · have := shaped_toD d2
        rw [toD] at this
        exact this
      · rw [any_toDs 60 p c.1 59 qs c.2]
        exact k _ H F (hB.push_fz (.bl _))
    · cases hb
  · rename_i qs
    split at hb
    · rename_i c
      cases hb
      obtain ⟨a, vs, rfl, h1, r1⟩ := hq.tup hB.sub
      have hp' := hp.rp hB.sub
      have r1' := r1.mono hB.sub
      refine .inr ⟨a, vs, rfl, .inr h1, flat_rp hp' c.1, flat_rpl r1' c.2, ?_⟩
      have e1 : inV x vs = qs.any fun z => eqP z p := inV_rpl hp' c.1 r1' c.2
      rw [e1]
      exact k _ H F (hB.push_fz (.bl _))
    · cases hb
  · cases hb
theorem bin_notIn {R : RE} : BinOk R opNotIn (fun x y H Q => rNotInD R.K x y H Q ∨ rIn R.K true x y H Q) := by
  intro e F H B p q x y r Q hB hp hq ho k
  unfold opNotIn at ho
  rw [Option.map_eq_some_iff] at ho
  obtain ⟨b, hb, rfl⟩ := ho
  unfold inP at hb
  split at hb
  · rename_i qs
    split at hb
    · rename_i c
      cases hb
      have d2 : datN 60 (.lst qs) = true := by rw [datN]; exact c.2
      refine .inl ⟨_, toDs qs, hp.dp hB.sub c.1, ?_, shaped_toD c.1, ?_, ?_⟩
      · have := hq.dp hB.sub d2
        rw [toD] at this
        exact this
      · have := shaped_toD d2
        rw [toD] at this
        exact this
      · rw [any_toDs 60 p c.1 59 qs c.2]
        exact k _ H F (hB.push_fz (.bl _))
    · cases hb
  · rename_i qs
    split at hb
    · rename_i c
      cases hb
      obtain ⟨a, vs, rfl, h1, r1⟩ := hq.tup hB.sub
      have hp' := hp.rp hB.sub
      have r1' := r1.mono hB.sub
      refine .inr ⟨a, vs, rfl, .inr h1, flat_rp hp' c.1, flat_rpl r1' c.2, ?_⟩
      have e1 : inV x vs = qs.any fun z => eqP z p := inV_rpl hp' c.1 r1' c.2
      rw [e1]
      exact k _ H F (hB.push_fz (.bl _))
    · cases hb
  · cases hb
theorem opr_in {X : Cx} (hu : X.A.units + 65 < cLine) : OpR X (compareOp .In) (fun x y H Q => rInD X.K x y H Q ∨ rIn X.K false x y H Q) := (op_inD hu).or op_in_seq
theorem opr_notIn {X : Cx} (hu : X.A.units + 65 < cLine) : OpR X (compareOp .NotIn) (fun x y H Q => rNotInD X.K x y H Q ∨ rIn X.K true x y H Q) := (op_notInD hu).or op_notIn_seq
/-- -i -/
def eNeg (f : PF) : PF := fun ρ => (f ρ).bind fun x => match x.1 with
  | .fz (.int i) => some (.fz (.int (-i)), x.2)
  | _ => none

section
variable {X : Cx} {R : RE} {a b c : Expr} {fa fb fc : PF} {ga gb gc : PT'} {pos : Pos} {rest : List Expr}
theorem eNeg_some {f : PF} {ρ ρ' : List Sl} {r : Sl} (h : eNeg f ρ = some (r, ρ')) : ∃ i, f ρ = some (.fz (.int i), ρ') ∧ r = .fz (.int (-i)) := by
  unfold eNeg at h
  rw [Option.bind_eq_some_iff] at h
  obtain ⟨⟨r1, ρ1⟩, h1, h⟩ := h
  cases r1 with
  | fz p =>
    cases p with
    | int i => cases h; exact ⟨i, h1, rfl⟩
    | _ => cases h
  | _ => cases h
theorem ev_neg (h : Ev X R a fa) : Ev X R (.UnaryOp .USub a pos) (eNeg fa) := by
  refine ⟨fun ρ r ρ' q => ?_, pe_mono (pe_un un_neg h.pe) fun σ H Q q => ?_⟩
  · obtain ⟨i, h1, _⟩ := eNeg_some q
    exact h.len _ _ _ h1
  · obtain ⟨e, F, ρ, tm, r, ρ', hl, hB, hf, k⟩ := q
    obtain ⟨i, h1, rfl⟩ := eNeg_some hf
    refine ⟨e, F, ρ, tm, _, ρ', hl, hB, h1, fun x H' F' B' _ => ?_⟩
    have hx := (B'.rq_fz (x := x) (p := .int i) app_last).int
    exact ⟨i, hx, k _ H' F' (B'.pop.push_fz (.int _)) pk_fz⟩
/-! ### and, or, not -/
def tAndF (ga gb : PT') : PT' := fun ρ => (ga ρ).bind fun x => if x.1 = true then gb x.2 else some (false, x.2)
def tOrF (ga gb : PT') : PT' := fun ρ => (ga ρ).bind fun x => if x.1 = true then some (true, x.2) else gb x.2
def tNotF (ga : PT') : PT' := fun ρ => (ga ρ).map fun x => (!x.1, x.2)
structure Wv (X : Cx) (R : RE) (e : Expr) (f : PT') : Prop where
  len : ∀ ρ r ρ', f ρ = some (r, ρ') → ρ'.length = ρ.length
  pw : PW X e (TTv R f)
theorem Wv.tv {e : Expr} {f : PT'} (h : Wv X R e f) : Tv X R e f := ⟨h.len, h.pw.pt⟩
theorem wv_and1 (h : Tv X R a ga) : Wv X R (.BoolOp .And [a] pos) ga := ⟨h.len, pw_and1 h.pt⟩
theorem wv_or1 (h : Tv X R a ga) : Wv X R (.BoolOp .Or [a] pos) ga := ⟨h.len, pw_or1 h.pt⟩
theorem tAndF_len (la : ∀ ρ r ρ', ga ρ = some (r, ρ') → ρ'.length = ρ.length) (lb : ∀ ρ r ρ', gb ρ = some (r, ρ') → ρ'.length = ρ.length) : ∀ ρ r ρ', tAndF ga gb ρ = some (r, ρ') → ρ'.length = ρ.length := fun ρ r ρ' h => by
  unfold tAndF at h
  rw [Option.bind_eq_some_iff] at h
  obtain ⟨⟨c, ρ1⟩, h1, h⟩ := h
  cases c with
  | true => exact (lb _ _ _ h).trans (la _ _ _ h1)
  | false => cases h; exact la _ _ _ h1
theorem tOrF_len (la : ∀ ρ r ρ', ga ρ = some (r, ρ') → ρ'.length = ρ.length) (lb : ∀ ρ r ρ', gb ρ = some (r, ρ') → ρ'.length = ρ.length) : ∀ ρ r ρ', tOrF ga gb ρ = some (r, ρ') → ρ'.length = ρ.length := fun ρ r ρ' h => by
  unfold tOrF at h
  rw [Option.bind_eq_some_iff] at h
  obtain ⟨⟨c, ρ1⟩, h1, h⟩ := h
  cases c with
  | false => exact (lb _ _ _ h).trans (la _ _ _ h1)
  | true => cases h; exact la _ _ _ h1
theorem wv_and (h : Tv X R a ga) (hb : Wv X R (.BoolOp .And (b :: rest) pos) gb) : Wv X R (.BoolOp .And (a :: b :: rest) pos) (tAndF ga gb) := by
  refine ⟨tAndF_len h.len hb.len, pw_mono (pw_and h.pt hb.pw) fun σ H Q q => ?_⟩
  obtain ⟨e, F, ρ, tm, r, ρ', hl, hB, hf, k⟩ := q
  unfold tAndF at hf
  rw [Option.bind_eq_some_iff] at hf
  obtain ⟨⟨c, ρ1⟩, h1, hf⟩ := hf
  refine ⟨e, F, ρ, tm, c, ρ1, hl, hB, h1, fun H1 F1 B1 => ?_⟩
  cases c with
  | true => rw [if_pos rfl]; exact ⟨e, F1, ρ1, tm, r, ρ', (h.len _ _ _ h1).trans hl, B1, hf, k⟩
  | false => rw [if_neg Bool.false_ne_true]; cases hf; exact k H1 F1 B1
theorem wv_or (h : Tv X R a ga) (hb : Wv X R (.BoolOp .Or (b :: rest) pos) gb) : Wv X R (.BoolOp .Or (a :: b :: rest) pos) (tOrF ga gb) := by
  refine ⟨tOrF_len h.len hb.len, pw_mono (pw_or h.pt hb.pw) fun σ H Q q => ?_⟩
  obtain ⟨e, F, ρ, tm, r, ρ', hl, hB, hf, k⟩ := q
  unfold tOrF at hf
  rw [Option.bind_eq_some_iff] at hf
  obtain ⟨⟨c, ρ1⟩, h1, hf⟩ := hf
  refine ⟨e, F, ρ, tm, c, ρ1, hl, hB, h1, fun H1 F1 B1 => ?_⟩
  cases c with
  | false => rw [if_neg Bool.false_ne_true]; exact ⟨e, F1, ρ1, tm, r, ρ', (h.len _ _ _ h1).trans hl, B1, hf, k⟩
  | true => rw [if_pos rfl]; cases hf; exact k H1 F1 B1
theorem tNotF_some {f : PT'} {ρ ρ' : List Sl} {r : Bool} (h : tNotF f ρ = some (r, ρ')) : f ρ = some (!r, ρ') := by
  unfold tNotF at h
  rw [Option.map_eq_some_iff] at h
  obtain ⟨⟨c, ρ1⟩, h1, h⟩ := h
  cases h
  rw [Bool.not_not]; exact h1
theorem tv_not (h : Tv X R a ga) : Tv X R (.UnaryOp .Not a pos) (tNotF ga) := by
  refine ⟨fun ρ r ρ' q => h.len _ _ _ (tNotF_some q), pt_mono (pt_not h.pt) fun σ H Q q => ?_⟩
  obtain ⟨e, F, ρ, tm, r, ρ', hl, hB, hf, k⟩ := q
  exact ⟨e, F, ρ, tm, !r, ρ', hl, hB, tNotF_some hf, fun H1 F1 B1 => by show Q (!(!r)) H1; rw [Bool.not_not]; exact k H1 F1 B1⟩
/-- .. as values -/
def vOf (g : PT') : PF := fun ρ => (g ρ).map fun x => (.fz (.bl x.1), x.2)
/-- and, or as values: all but the last are truth values -/
def eAndF (fa fb : PF) : PF := fun ρ => (tOf fa ρ).bind fun x => if x.1 = true then fb x.2 else some (.fz (.bl false), x.2)
def eOrF (fa fb : PF) : PF := fun ρ => (tOf fa ρ).bind fun x => if x.1 = true then some (.fz (.bl true), x.2) else fb x.2
theorem tEv_bl {f : PF} {σ : L2.St} {H : Hp} {Q : Bool → Hp → Prop} (h : TTv R (tOf f) σ H Q) : TEv R f σ H fun x H' => ∃ k, x = .bl k ∧ Q k H' := tTest_of σ H Q h
theorem ev_one {op : BoolOp} (h : Ev X R a fa) : Ev X R (.BoolOp op [a] pos) fa := ⟨h.len, pe_one h.pe⟩
theorem ev_and (h : Ev X R a fa) (hb : Ev X R (.BoolOp .And (b :: rest) pos) fb) : Ev X R (.BoolOp .And (a :: b :: rest) pos) (eAndF fa fb) := by
  refine ⟨fun ρ r ρ' q => ?_, pe_mono (pe_and h.pe hb.pe) fun σ H Q q => ?_⟩
  · unfold eAndF at q
    rw [Option.bind_eq_some_iff] at q
    obtain ⟨⟨c, ρ1⟩, h1, q⟩ := q
    have l1 := tOf_len h.len _ _ _ h1
    cases c with
    | true => exact (hb.len _ _ _ q).trans l1
    | false => cases q; exact l1
  · obtain ⟨e, F, ρ, tm, r, ρ', hl, hB, hf, k⟩ := q
    unfold eAndF at hf
    rw [Option.bind_eq_some_iff] at hf
    obtain ⟨⟨c, ρ1⟩, h1, hf⟩ := hf
    have l1 := tOf_len h.len _ _ _ h1
    refine tEv_bl ⟨e, F, ρ, tm, c, ρ1, hl, hB, h1, fun H1 F1 B1 => ?_⟩
    cases c with
    | true => rw [if_pos rfl]; exact ⟨e, F1, ρ1, tm, r, ρ', l1.trans hl, B1, hf, k⟩
    | false => rw [if_neg Bool.false_ne_true]; cases hf; exact k _ H1 F1 (B1.push_fz (.bl _)) pk_fz
theorem ev_or (h : Ev X R a fa) (hb : Ev X R (.BoolOp .Or (b :: rest) pos) fb) : Ev X R (.BoolOp .Or (a :: b :: rest) pos) (eOrF fa fb) := by
  refine ⟨fun ρ r ρ' q => ?_, pe_mono (pe_or h.pe hb.pe) fun σ H Q q => ?_⟩
  · unfold eOrF at q
    rw [Option.bind_eq_some_iff] at q
    obtain ⟨⟨c, ρ1⟩, h1, q⟩ := q
    have l1 := tOf_len h.len _ _ _ h1
    cases c with
    | false => exact (hb.len _ _ _ q).trans l1
    | true => cases q; exact l1
  · obtain ⟨e, F, ρ, tm, r, ρ', hl, hB, hf, k⟩ := q
    unfold eOrF at hf
    rw [Option.bind_eq_some_iff] at hf
    obtain ⟨⟨c, ρ1⟩, h1, hf⟩ := hf
    have l1 := tOf_len h.len _ _ _ h1
    refine tEv_bl ⟨e, F, ρ, tm, c, ρ1, hl, hB, h1, fun H1 F1 B1 => ?_⟩
    cases c with
    | false => rw [if_neg Bool.false_ne_true]; exact ⟨e, F1, ρ1, tm, r, ρ', l1.trans hl, B1, hf, k⟩
    | true => rw [if_pos rfl]; cases hf; exact k _ H1 F1 (B1.push_fz (.bl _)) pk_fz
def eNotF (fa : PF) : PF := fun ρ => (tOf fa ρ).map fun x => (.fz (.bl (!x.1)), x.2)
theorem ev_not (h : Ev X R a fa) : Ev X R (.UnaryOp .Not a pos) (eNotF fa) := by
  refine ⟨fun ρ r ρ' q => ?_, pe_mono (pe_not h.pe) fun σ H Q q => ?_⟩
  · unfold eNotF at q
    rw [Option.map_eq_some_iff] at q
    obtain ⟨⟨c, ρ1⟩, h1, q⟩ := q
    cases q
    exact tOf_len h.len _ _ _ h1
  · obtain ⟨e, F, ρ, tm, r, ρ', hl, hB, hf, k⟩ := q
    unfold eNotF at hf
    rw [Option.map_eq_some_iff] at hf
    obtain ⟨⟨c, ρ1⟩, h1, hf⟩ := hf
    cases hf
    exact tEv_bl ⟨e, F, ρ, tm, c, ρ1, hl, hB, h1, fun H1 F1 B1 => k _ H1 F1 (B1.push_fz (.bl _)) pk_fz⟩
/-! ### a if t else b -/
def eIf (g : PT') (fa fb : PF) : PF := fun ρ => (g ρ).bind fun x => if x.1 = true then fa x.2 else fb x.2
theorem ev_if (h : Tv X R c gc) (ha : Ev X R a fa) (hb : Ev X R b fb) : Ev X R (.IfExp c a b pos) (eIf gc fa fb) := by
  refine ⟨fun ρ r ρ' q => ?_, pe_mono (pe_ifExp h.pt ha.pe hb.pe) fun σ H Q q => ?_⟩
  · unfold eIf at q
    rw [Option.bind_eq_some_iff] at q
    obtain ⟨⟨c, ρ1⟩, h1, q⟩ := q
    cases c with
    | true => exact (ha.len _ _ _ q).trans (h.len _ _ _ h1)
    | false => exact (hb.len _ _ _ q).trans (h.len _ _ _ h1)
  · obtain ⟨e, F, ρ, tm, r, ρ', hl, hB, hf, k⟩ := q
    unfold eIf at hf
    rw [Option.bind_eq_some_iff] at hf
    obtain ⟨⟨c, ρ1⟩, h1, hf⟩ := hf
    refine ⟨e, F, ρ, tm, c, ρ1, hl, hB, h1, fun H1 F1 B1 => ?_⟩
    cases c with
    | true => rw [if_pos rfl]; exact ⟨e, F1, ρ1, tm, r, ρ', (h.len _ _ _ h1).trans hl, B1, hf, k⟩
    | false => rw [if_neg Bool.false_ne_true]; exact ⟨e, F1, ρ1, tm, r, ρ', (h.len _ _ _ h1).trans hl, B1, hf, k⟩
/-! ### a chain of two comparisons -/
def eChain (op op' : PV → PV → Option Vl) (fa fb fc : PF) : PF := fun ρ => (fa ρ).bind fun x => (fb x.2).bind fun y => (cont y.2 x.1).bind fun p => (cont y.2 y.1).bind fun q => match op p q with
  | some (.fz (.bl true)) => (fc y.2).bind fun z => (cont z.2 y.1).bind fun q' => (cont z.2 z.1).bind fun r => (op' q' r).map fun v => (v.sl, z.2)
  | some (.fz (.bl false)) => some (.fz (.bl false), y.2)
  | _ => none
theorem chain_len {op op' : PV → PV → Option Vl} (la : ∀ ρ r ρ', fa ρ = some (r, ρ') → ρ'.length = ρ.length) (lb : ∀ ρ r ρ', fb ρ = some (r, ρ') → ρ'.length = ρ.length) (lc : ∀ ρ r ρ', fc ρ = some (r, ρ') → ρ'.length = ρ.length) :
    ∀ ρ r ρ', eChain op op' fa fb fc ρ = some (r, ρ') → ρ'.length = ρ.length := fun ρ r ρ' h => by
  unfold eChain at h
  rw [Option.bind_eq_some_iff] at h
  obtain ⟨⟨r1, ρ1⟩, h1, h⟩ := h
  rw [Option.bind_eq_some_iff] at h
  obtain ⟨⟨r2, ρ2⟩, h2, h⟩ := h
  rw [Option.bind_eq_some_iff] at h
  obtain ⟨p, h3, h⟩ := h
  rw [Option.bind_eq_some_iff] at h
  obtain ⟨q, h4, h⟩ := h
  have l := (lb _ _ _ h2).trans (la _ _ _ h1)
  split at h
  · rw [Option.bind_eq_some_iff] at h
    obtain ⟨⟨r3, ρ3⟩, h5, h⟩ := h
    rw [Option.bind_eq_some_iff] at h
    obtain ⟨q', h6, h⟩ := h
    rw [Option.bind_eq_some_iff] at h
    obtain ⟨r', h7, h⟩ := h
    rw [Option.map_eq_some_iff] at h
    obtain ⟨v, _, h⟩ := h
    cases h
    exact (lc _ _ _ h5).trans l
  · cases h; exact l
  · cases h
theorem tChain_of {op op' : PV → PV → Option Vl} {rd rd' : R2} (ho : BinOk R op rd) (ho' : BinOk R op' rd') (la : ∀ ρ r ρ', fa ρ = some (r, ρ') → ρ'.length = ρ.length) (lb : ∀ ρ r ρ', fb ρ = some (r, ρ') → ρ'.length = ρ.length) (lc : ∀ ρ r ρ', fc ρ = some (r, ρ') → ρ'.length = ρ.length)
    (σ : L2.St) (H : Hp) (Q : VK) (h : TEv R (eChain op op' fa fb fc) σ H Q) : tChain rd rd' (TEv R fa) (TEv R fb) (TEv R fc) σ H Q := by
  obtain ⟨e, F, ρ, tm, r, ρ', hl, hB, hf, k⟩ := h
  unfold eChain at hf
  rw [Option.bind_eq_some_iff] at hf
  obtain ⟨⟨r1, ρ1⟩, h1, hf⟩ := hf
  rw [Option.bind_eq_some_iff] at hf
  obtain ⟨⟨r2, ρ2⟩, h2, hf⟩ := hf
  rw [Option.bind_eq_some_iff] at hf
  obtain ⟨p, h3, hf⟩ := hf
  rw [Option.bind_eq_some_iff] at hf
  obtain ⟨q, h4, hf⟩ := hf
  have l1 := la _ _ _ h1
  have l2 := lb _ _ _ h2
  dsimp only at h2 h3 h4 hf
  refine ⟨e, F, ρ, tm, r1, ρ1, hl, hB, h1, fun x1 H1 F1 B1 k1 => ?_⟩
  rw [List.append_assoc] at B1
  refine ⟨e, F1, ρ1, tm ++ [(tmpOf r1, some x1)], r2, ρ2, l1.trans hl, B1, h2, fun x2 H2 F2 B2 k2 => ?_⟩
  have g1 : (ρ2.zip σ ++ (tm ++ [(tmpOf r1, some x1)]) ++ [(tmpOf r2, some x2)])[(ρ2.zip σ ++ tm).length]? = some (tmpOf r1, some x1) := by
    rw [← List.append_assoc (ρ2.zip σ), List.append_assoc]; exact app_mid
  have g2 : (ρ2.zip σ ++ (tm ++ [(tmpOf r1, some x1)]) ++ [(tmpOf r2, some x2)])[(ρ2.zip σ ++ (tm ++ [(tmpOf r1, some x1)])).length]? = some (tmpOf r2, some x2) := app_last
  have q1 : Rq R F2 H2 p x1 := by
    have B2' := B2
    rw [List.append_assoc] at B2' g1
    exact B2'.rq g1 k1 h3
  have q2 : Rq R F2 H2 q x2 := by
    have B2' := B2
    rw [List.append_assoc] at B2' g2
    exact B2'.rq g2 k2 h4
  -- the second operand stays, the first goes
  have B3 : Bag R e F2 H2 (ρ2.zip σ ++ (tm ++ [(.un, some x1)]) ++ [(tmpOf r2, some x2)]) := by
    have := B2.put g1 (t := .un) trivial (fun _ z => nomatch z)
    rw [List.set_append_left _ _ (by simp), ← List.append_assoc (ρ2.zip σ), List.set_append_right _ _ (Nat.le_refl _), Nat.sub_self] at this
    rw [← List.append_assoc (ρ2.zip σ)]
    exact this
  cases ho1 : op p q with
  | none => rw [ho1] at hf; cases hf
  | some w =>
    rw [ho1] at hf
    refine ho e F2 H2 _ p q x1 x2 w _ B3 q1 q2 ho1 fun z H3 F3 B4 => ?_
    cases w with
    | own _ => cases hf
    | fz w =>
      cases w with
      | bl d =>
        have ez := (B4.rq_fz (x := z) (p := .bl d) app_last).bl
        refine ⟨d, ez, ?_⟩
        have B5 := B4.pop
        cases d with
        | false =>
          rw [if_neg Bool.false_ne_true]
          cases hf
          have B6 := B5.pop
          rw [← List.append_assoc] at B6
          exact k _ H3 F3 (B6.pop.push_fz (.bl _)) pk_fz
        | true =>
          rw [if_pos rfl]
          dsimp only at hf
          rw [Option.bind_eq_some_iff] at hf
          obtain ⟨⟨r3, ρ3⟩, h5, hf⟩ := hf
          rw [Option.bind_eq_some_iff] at hf
          obtain ⟨q', h6, hf⟩ := hf
          rw [Option.bind_eq_some_iff] at hf
          obtain ⟨p3, h7, hf⟩ := hf
          rw [Option.map_eq_some_iff] at hf
          obtain ⟨v, h8, hf⟩ := hf
          cases hf
          rw [List.append_assoc] at B5
          refine ⟨e, F3, ρ2, _, r3, ρ3, l2.trans (l1.trans hl), B5, h5, fun x3 H4 F4 B6 k3 => ?_⟩
          have l3 := lc _ _ _ h5
          have g3 : (ρ3.zip σ ++ (tm ++ [(Sl.un, some x1)] ++ [(tmpOf r2, some x2)]) ++ [(tmpOf r3, some x3)])[(ρ3.zip σ ++ (tm ++ [(Sl.un, some x1)])).length]? = some (tmpOf r2, some x2) := by
            rw [← List.append_assoc (ρ3.zip σ), List.append_assoc]; exact app_mid
          have g4 : (ρ3.zip σ ++ (tm ++ [(Sl.un, some x1)] ++ [(tmpOf r2, some x2)]) ++ [(tmpOf r3, some x3)])[(ρ3.zip σ ++ (tm ++ [(Sl.un, some x1)] ++ [(tmpOf r2, some x2)])).length]? = some (tmpOf r3, some x3) := app_last
          have q3 : Rq R F4 H4 q' x2 := by
            have B6' := B6
            rw [List.append_assoc] at B6' g3
            exact B6'.rq g3 k2 h6
          have q4 : Rq R F4 H4 p3 x3 := by
            have B6' := B6
            rw [List.append_assoc] at B6' g4
            exact B6'.rq g4 k3 h7
          have B7 : Bag R e F4 H4 (ρ3.zip σ ++ tm) := by
            have B8 := B6.pop
            rw [← List.append_assoc] at B8
            have B9 := B8.pop
            rw [← List.append_assoc] at B9
            exact B9.pop
          exact ho' e F4 H4 _ q' p3 x2 x3 v Q B7 q3 q4 h8 fun z H' F' B' => k z H' F' (by rw [tmp_sl]; exact B') (sl_pk v σ z)
      | _ => cases hf
theorem ev_chain {o o' : CmpOp} {op op' : PV → PV → Option Vl} {rd rd' : R2} (hr : OpR X (compareOp o) rd) (hr' : OpR X (compareOp o') rd') (ho : BinOk R op rd) (ho' : BinOk R op' rd') (ha : Ev X R a fa) (hb : Ev X R b fb) (hc : Ev X R c fc)
    (hm : lastMarks [o, o'] [b, c] = false := by with_unfolding_all rfl) : Ev X R (.Compare a [o, o'] [b, c] pos) (eChain op op' fa fb fc) :=
  ⟨chain_len ha.len hb.len hc.len, pe_mono (pe_chain hr hr' ha.pe hb.pe hc.pe hm) (tChain_of ho ho' ha.len hb.len hc.len)⟩
theorem tv_chain {o o' : CmpOp} {op op' : PV → PV → Option Vl} {rd rd' : R2} (hr : OpR X (compareOp o) rd) (hr' : OpR X (compareOp o') rd') (ho : BinOk R op rd) (ho' : BinOk R op' rd') (ha : Ev X R a fa) (hb : Ev X R b fb) (hc : Ev X R c fc)
    (hm : lastMarks [o, o'] [b, c] = false := by with_unfolding_all rfl) : Tv X R (.Compare a [o, o'] [b, c] pos) (tOf (eChain op op' fa fb fc)) :=
  ⟨tOf_len (chain_len ha.len hb.len hc.len), pt_mono (pt_chain hr hr' ha.pe hb.pe hc.pe hm) fun σ H Q q => tChain_of ho ho' ha.len hb.len hc.len σ H _ (tTest_of σ H Q q)⟩
/-! ### indices -/
def opIx : PV → PV → Option Vl
  | .lst xs, .int i => (atI xs i).map .fz
  | .tup xs, .int i => (atI xs i).map .fz
  | .str z, .int i => if z.length ≤ lineN then (atI z.cps.toList i).map fun c => .fz (.str ⟨#[c]⟩) else none
  | _, _ => none
theorem atI_rp {F : Hp} {ps : List PV} {vs : List V} {i : Int} {p : PV} (h : RpL R F ps vs) (e : atI ps i = some p) : ∃ v, atI vs i = some v ∧ Rp R F p v := by
  unfold atI at e ⊢
  rw [← h.length]
  rw [Option.bind_eq_some_iff] at e
  obtain ⟨j, h1, h2⟩ := e
  obtain ⟨v, h3, h4⟩ := h.get' h2
  exact ⟨v, by rw [h1]; exact h3, h4⟩
theorem bin_ix : BinOk R opIx (rIx R.K) := by
  intro e F H B p q x y r Q hB hp hq ho k
  unfold opIx at ho
  split at ho
  · rename_i xs i
    rw [Option.map_eq_some_iff] at ho
    obtain ⟨z, h1, rfl⟩ := ho
    obtain ⟨a, vs, rfl, h2, r1⟩ := hp.lst hB.sub
    obtain ⟨v, h3, h4⟩ := atI_rp r1 h1
    exact .inl ⟨a, vs, i, v, rfl, hq.int, SqL.of h2, h3, k _ H F (hB.push_fz h4)⟩
  · rename_i xs i
    rw [Option.map_eq_some_iff] at ho
    obtain ⟨z, h1, rfl⟩ := ho
    obtain ⟨a, vs, rfl, h2, r1⟩ := hp.tup hB.sub
    obtain ⟨v, h3, h4⟩ := atI_rp r1 h1
    exact .inr (.inl ⟨a, vs, i, v, rfl, hq.int, h2, h3, k _ H F (hB.push_fz h4)⟩)
  · rename_i z i
    split at ho
    · rename_i c
      rw [Option.map_eq_some_iff] at ho
      obtain ⟨w, h1, rfl⟩ := ho
      exact .inr (.inr ⟨z, i, w, hp.str, hq.int, by rw [← lineN_eq]; exact c, h1, k _ H F (hB.push_fz (.str _))⟩)
    · cases ho
  · cases ho
theorem ev_ix (hK : R.K = X.K) (ha : Ev X R a fa) (hb : Ev X R b fb) (hs : PlainIx b := by intro _ _; rfl) : Ev X R (.Subscript a b pos) (eBin opIx fa fb) :=
  ⟨bin_len ha.len hb.len, pe_mono (pe_ix ix_seq ha.pe hb.pe hs) (by rw [← hK]; exact tOp_of bin_ix ha.len hb.len)⟩
end

/-! ### slices -/
abbrev PFo := List Sl → Option (Option Int × List Sl)
def TOv (R : RE) (f : PFo) : TO := fun σ H Q => ∃ (e : En) (F : Hp) (ρ : List Sl) (tm : Bg) (b : Option Int) (ρ' : List Sl), ρ.length = σ.length ∧ Bag R e F H (ρ.zip σ ++ tm) ∧ f ρ = some (b, ρ') ∧
  ∀ H' F', Bag R e F' H' (ρ'.zip σ ++ tm) → Q b H'
structure Ov (X : Cx) (R : RE) (e : Option Expr) (f : PFo) : Prop where
  len : ∀ ρ r ρ', f ρ = some (r, ρ') → ρ'.length = ρ.length
  po : PO X e (TOv R f)
def oNone : PFo := fun ρ => some (none, ρ)
def oSome (f : PF) : PFo := fun ρ => (f ρ).bind fun x => match x.1 with
  | .fz (.int i) => some (some i, x.2)
  | _ => none
section
variable {X : Cx} {R : RE} {a b c : Expr} {fa fb fc : PF} {pos p2 : Pos}
theorem po_mono {o : Option Expr} {t t' : TO} (h : PO X o t) (m : ∀ σ H Q, t' σ H Q → t σ H Q) : PO X o t' := ⟨fun pins s σ H Q I q => h.run pins s σ H Q I (m σ H Q q)⟩
theorem ov_none : Ov X R none oNone := ⟨fun ρ r ρ' h => by cases h; rfl, po_mono po_none fun σ H Q h => by
  obtain ⟨e, F, ρ, tm, r', ρ', hl, hB, hf, k⟩ := h
  cases hf
  exact k H F hB⟩
theorem oSome_some {f : PF} {ρ ρ' : List Sl} {r : Option Int} (h : oSome f ρ = some (r, ρ')) : ∃ i, f ρ = some (.fz (.int i), ρ') ∧ r = some i := by
  unfold oSome at h
  rw [Option.bind_eq_some_iff] at h
  obtain ⟨⟨r1, ρ1⟩, h1, h⟩ := h
  cases r1 with
  | fz p =>
    cases p with
    | int i => cases h; exact ⟨i, h1, rfl⟩
    | _ => cases h
  | _ => cases h
theorem ov_some (h : Ev X R a fa) : Ov X R (some a) (oSome fa) := by
  refine ⟨fun ρ r ρ' q => ?_, po_mono (po_some h.pe) fun σ H Q q => ?_⟩
  · obtain ⟨i, h1, _⟩ := oSome_some q
    exact h.len _ _ _ h1
  · obtain ⟨e, F, ρ, tm, r, ρ', hl, hB, hf, k⟩ := q
    obtain ⟨i, h1, rfl⟩ := oSome_some hf
    refine ⟨e, F, ρ, tm, _, ρ', hl, hB, h1, fun x H' F' B' _ => ⟨i, (B'.rq_fz (x := x) (p := .int i) app_last).int, k H' F' B'.pop⟩⟩
def cutP {α : Type} (xs : List α) (lo hi : Option Int) : List α := (xs.drop (HT.sIx xs.length 0 lo)).take (HT.sIx xs.length xs.length hi - HT.sIx xs.length 0 lo)
theorem cutP_rp {F : Hp} {ps : List PV} {vs : List V} (h : RpL R F ps vs) (lo hi : Option Int) : RpL R F (cutP ps lo hi) (cutV vs lo hi) := by
  unfold cutP cutV
  rw [h.length]
  exact (h.drop _).take _
def opSl (p : PV) (lo hi : Option Int) : Option Vl := match p with
  | .lst xs => some (.own (cutP xs lo hi))
  | .scr xs => some (.own (cutP xs lo hi))
  | .tup xs => some (.fz (.tup (cutP xs lo hi)))
  | .str z => if z.length ≤ lineN then some (.fz (.str (cutS z lo hi))) else none
  | _ => none
def eSl (fa : PF) (fl fh : PFo) : PF := fun ρ => (fa ρ).bind fun x => (fl x.2).bind fun l => (fh l.2).bind fun h => (cont h.2 x.1).bind fun p => (opSl p l.1 h.1).map fun r => (r.sl, h.2)
def rSl (K : PySem.W.Frag) : V → Option Int → Option Int → Hp → VK → Prop := fun x lo hi H Q => rSlL K x lo hi H Q ∨ (rSlA K x lo hi H Q ∨ rSlS x lo hi H Q)
theorem cut_all {α : Type} {xs : List α} {lo hi : Option Int} (h1 : HT.sIx xs.length 0 lo = 0) (h2 : HT.sIx xs.length xs.length hi = xs.length) : cutP xs lo hi = xs := by
  unfold cutP
  rw [h1, h2, List.drop_zero, Nat.sub_zero, List.take_length]
theorem sl_ok {e : En} {F H : Hp} {B : Bg} {p : PV} {x : V} {lo hi : Option Int} {v : Vl} {Q : VK} (hB : Bag R e F H B) (hp : Rq R F H p x) (ho : opSl p lo hi = some v)
    (k : ∀ z H' F', Bag R e F' H' (B ++ [(v.sl, some z)]) → Q z H') : rSl R.K x lo hi H Q := by
  unfold opSl at ho
  split at ho
  · cases ho
    obtain ⟨a, vs, rfl, h1, r1⟩ := hp.lst hB.sub
    exact .inl ⟨a, vs, rfl, SqL.of h1, fun p n => k _ _ _ (hB.new_lst n (cutP_rp r1 lo hi))⟩
  · cases ho
    obtain ⟨a, vs, rfl, h1, r1⟩ := hp.scr hB.sub
    exact .inl ⟨a, vs, rfl, h1, fun p n => k _ _ _ (hB.new_lst n (cutP_rp r1 lo hi))⟩
  · rename_i xs
    cases ho
    have hp' := hp
    obtain ⟨a, vs, rfl, h1, r1⟩ := hp.tup hB.sub
    refine .inr (.inl ⟨a, vs, rfl, h1, fun z => ?_, fun z p n => k _ _ _ (hB.new_tup n (cutP_rp r1 lo hi))⟩)
    have hp2 : Rp R F (.tup xs) (.ref a) := by
      rcases hp' with h | ⟨_, _, _, _, z, _⟩
      · exact h
      · cases z
    rw [← r1.length] at z
    refine k _ H F ?_
    show Bag R e F H (B ++ [(Sl.fz (.tup (cutP xs lo hi)), _)])
    rw [cut_all z.1 z.2]
    exact hB.push_fz hp2
  · rename_i z
    split at ho
    · rename_i c
      cases ho
      exact .inr (.inr ⟨z, hp.str, by rw [← lineN_eq]; exact c, k _ H F (hB.push_fz (.str _))⟩)
    · cases ho
  · cases ho
theorem ev_sl (hK : R.K = X.K) {lo hi : Option Expr} {fl fh : PFo} (ha : Ev X R a fa) (hl : Ov X R lo fl) (hh : Ov X R hi fh) : Ev X R (.Subscript a (.Slice lo hi none p2) pos) (eSl fa fl fh) := by
  have key : ∀ {ρ ρ' : List Sl} {r : Sl}, eSl fa fl fh ρ = some (r, ρ') → ∃ r1 ρ1 l ρ2 h p v, fa ρ = some (r1, ρ1) ∧ fl ρ1 = some (l, ρ2) ∧ fh ρ2 = some (h, ρ') ∧ cont ρ' r1 = some p ∧ opSl p l h = some v ∧ r = v.sl := by
    intro ρ ρ' r q
    unfold eSl at q
    rw [Option.bind_eq_some_iff] at q
    obtain ⟨⟨r1, ρ1⟩, h1, q⟩ := q
    rw [Option.bind_eq_some_iff] at q
    obtain ⟨⟨l, ρ2⟩, h2, q⟩ := q
    rw [Option.bind_eq_some_iff] at q
    obtain ⟨⟨h, ρ3⟩, h3, q⟩ := q
    rw [Option.bind_eq_some_iff] at q
    obtain ⟨p, h4, q⟩ := q
    rw [Option.map_eq_some_iff] at q
    obtain ⟨v, h5, q⟩ := q
    cases q
    exact ⟨r1, ρ1, l, ρ2, h, p, v, h1, h2, h3, h4, h5, rfl⟩
  refine ⟨fun ρ r ρ' q => ?_, pe_mono (pe_slice (sl_list.or (sl_tupA.or sl_str)) ha.pe hl.po hh.po) fun σ H Q q => ?_⟩
  · obtain ⟨r1, ρ1, l, ρ2, h, p, v, h1, h2, h3, _⟩ := key q
    exact (hh.len _ _ _ h3).trans ((hl.len _ _ _ h2).trans (ha.len _ _ _ h1))
  · obtain ⟨e, F, ρ, tm, r, ρ', hl', hB, hf, k⟩ := q
    obtain ⟨r1, ρ1, l, ρ2, h, p, v, h1, h2, h3, h4, h5, rfl⟩ := key hf
    have l1 := ha.len _ _ _ h1
    have l2 := hl.len _ _ _ h2
    refine ⟨e, F, ρ, tm, r1, ρ1, hl', hB, h1, fun x1 H1 F1 B1 k1 => ?_⟩
    rw [List.append_assoc] at B1
    refine ⟨e, F1, ρ1, _, l, ρ2, l1.trans hl', B1, h2, fun H2 F2 B2 => ?_⟩
    refine ⟨e, F2, ρ2, _, h, ρ', l2.trans (l1.trans hl'), B2, h3, fun H3 F3 B3 => ?_⟩
    have g1 : (ρ'.zip σ ++ (tm ++ [(tmpOf r1, some x1)]))[(ρ'.zip σ ++ tm).length]? = some (tmpOf r1, some x1) := by
      rw [← List.append_assoc]; exact app_last
    have q1 := B3.rq g1 k1 h4
    rw [← List.append_assoc] at B3
    have := sl_ok B3.pop q1 h5 fun z H' F' B' => k z H' F' (by rw [tmp_sl]; exact B') (sl_pk v σ z)
    unfold rSl at this
    rw [hK] at this
    exact this
end
end PL
set_option Elab.async false
set_option linter.all false
set_option maxRecDepth 100000
set_option maxHeartbeats 4000000
/-! PLe: argument lists, displays, built-in functions, isinstance. -/
namespace PL
open PySem PySem.Spec PyProof.Rows L2

def aNil : PFs := fun ρ => some ([], ρ)
def aCons (f : PF) (fs : PFs) : PFs := fun ρ => (f ρ).bind fun x => (fs x.2).map fun y => (x.1 :: y.1, y.2)
/-- contents as values that stay (own lists are frozen) -/
def valOf : Sl → Option PV
  | .fz p => some p
  | .own xs => some (.lst xs)
  | _ => none
def valsOf : List Sl → Option (List PV)
  | [] => some []
  | s :: r => (valOf s).bind fun p => (valsOf r).map fun ps => p :: ps

section
variable {X : Cx} {R : RE} {a b : Expr} {es : List Expr} {fa fb : PF} {fs : PFs} {pos : Pos}
theorem av_nil : Av X R [] aNil := ⟨fun ρ r ρ' h => by cases h; rfl, fun ρ r ρ' h => by cases h; rfl, pa_mono pa_nil fun σ H Q h => by
  obtain ⟨e, F, ρ, tm, rs, ρ', hl, hB, hf, k⟩ := h
  cases hf
  exact k [] H F (by simpa using hB) .nil⟩
theorem aCons_some {ρ ρ' : List Sl} {rs : List Sl} (h : aCons fa fs ρ = some (rs, ρ')) : ∃ r ρ1 r', fa ρ = some (r, ρ1) ∧ fs ρ1 = some (r', ρ') ∧ rs = r :: r' := by
  unfold aCons at h
  rw [Option.bind_eq_some_iff] at h
  obtain ⟨⟨r, ρ1⟩, h1, h⟩ := h
  rw [Option.map_eq_some_iff] at h
  obtain ⟨⟨r', ρ2⟩, h2, h⟩ := h
  cases h
  exact ⟨r, ρ1, r', h1, h2, rfl⟩
theorem av_cons (ha : Ev X R a fa) (hs : Av X R es fs) (hst : starEach (a :: es) X.env = (false, eval a X.env) :: starEach es X.env := by rfl) : Av X R (a :: es) (aCons fa fs) := by
  refine ⟨fun ρ r ρ' h => ?_, fun ρ r ρ' h => ?_, pa_mono (pa_cons ha.pe hs.pa hst) fun σ H Q h => ?_⟩
  · obtain ⟨r, ρ1, r', h1, h2, _⟩ := aCons_some h
    exact (hs.len _ _ _ h2).trans (ha.len _ _ _ h1)
  · obtain ⟨r, ρ1, r', h1, h2, rfl⟩ := aCons_some h
    rw [List.length_cons, List.length_cons, hs.cnt _ _ _ h2]
  · obtain ⟨e, F, ρ, tm, rs, ρ', hl, hB, hf, k⟩ := h
    obtain ⟨r, ρ1, r', h1, h2, rfl⟩ := aCons_some hf
    have l1 := ha.len _ _ _ h1
    refine ⟨e, F, ρ, tm, r, ρ1, hl, hB, h1, fun x H1 F1 B1 k1 => ?_⟩
    rw [List.append_assoc] at B1
    refine ⟨e, F1, ρ1, _, r', ρ', l1.trans hl, B1, h2, fun xs H2 F2 B2 k2 => k (x :: xs) H2 F2 ?_ (.cons k1 k2)⟩
    have e1 : ((r :: r').map tmpOf).zip ((x :: xs).map some) = [(tmpOf r, some x)] ++ (r'.map tmpOf).zip (xs.map some) := rfl
    rw [e1]
    rw [← List.append_assoc]
    rw [← List.append_assoc] at B2
    exact B2
end

/-- the values of temporaries, frozen -/
theorem Bag.vals {R : RE} {e : En} {H : Hp} : ∀ {rs : List Sl} {xs : List V} {F : Hp} {B : Bg} {ps : List PV}, Bag R e F H (B ++ rs.zip (xs.map some)) → rs.length = xs.length → valsOf rs = some ps → ∃ F', Sub F F' ∧ Bag R e F' H B ∧ RpL R F' ps xs
  | [], [], F, B, ps, hB, _, h => by
    cases h
    exact ⟨F, .refl, by simpa using hB, .nil⟩
  | [], _ :: _, _, _, _, _, l, _ => by cases l
  | _ :: _, [], _, _, _, _, l, _ => by cases l
  | r :: rs, x :: xs, F, B, ps, hB, l, h => by
    unfold valsOf at h
    rw [Option.bind_eq_some_iff] at h
    obtain ⟨p, h1, h⟩ := h
    rw [Option.map_eq_some_iff] at h
    obtain ⟨ps', h2, rfl⟩ := h
    have e1 : (B ++ (r :: rs).zip ((x :: xs).map some)) = (B ++ [(r, some x)]) ++ rs.zip (xs.map some) := by
      rw [List.append_assoc]; rfl
    rw [e1] at hB
    obtain ⟨F1, s1, B1, q1⟩ := Bag.vals hB (by simpa using l) h2
    cases r with
    | fz p' =>
      cases h1
      obtain ⟨y, ey, q⟩ := B1.all _ _ _ app_last
      cases ey
      exact ⟨F1, s1, B1.pop, .cons q q1⟩
    | own zs =>
      cases h1
      obtain ⟨F2, s2, B2⟩ := B1.freeze app_last
      rw [List.set_append_right _ _ (Nat.le_refl _), Nat.sub_self] at B2
      obtain ⟨y, ey, q⟩ := B2.all _ _ _ app_last
      cases ey
      exact ⟨F2, s1.trans s2, B2.pop, .cons q (q1.mono s2)⟩
    | _ => cases h1
theorem valOf_tmp {s : Sl} {p : PV} (h : valOf s = some p) : tmpOf s = s := by
  cases s <;> first | rfl | cases h
theorem valsOf_tmp : ∀ {rs : List Sl} {ps : List PV}, valsOf rs = some ps → rs.map tmpOf = rs
  | [], _, _ => rfl
  | r :: rs, ps, h => by
    unfold valsOf at h
    rw [Option.bind_eq_some_iff] at h
    obtain ⟨p, h1, h⟩ := h
    rw [Option.map_eq_some_iff] at h
    obtain ⟨ps', h2, rfl⟩ := h
    rw [List.map_cons, valOf_tmp h1, valsOf_tmp h2]
theorem valsOf_len : ∀ {rs : List Sl} {ps : List PV}, valsOf rs = some ps → rs.length = ps.length
  | [], _, h => by cases h; rfl
  | r :: rs, ps, h => by
    unfold valsOf at h
    rw [Option.bind_eq_some_iff] at h
    obtain ⟨p, h1, h⟩ := h
    rw [Option.map_eq_some_iff] at h
    obtain ⟨ps', h2, rfl⟩ := h
    rw [List.length_cons, List.length_cons, valsOf_len h2]
theorem Paired.len {α β : Type} {P : α → β → Prop} {xs : List α} {ys : List β} (h : Paired P xs ys) : xs.length = ys.length := Paired.length h

/-! ### displays -/
def eTup (fs : PFs) : PF := fun ρ => (fs ρ).bind fun x => (valsOf x.1).bind fun ps => if ps.length ≤ lineN then some (.fz (.tup ps), x.2) else none
def eLst (fs : PFs) : PF := fun ρ => (fs ρ).bind fun x => (valsOf x.1).bind fun ps => if ps.length ≤ lineN then some (.own ps, x.2) else none
section
variable {X : Cx} {R : RE} {a b : Expr} {es : List Expr} {fa fb : PF} {fs : PFs} {pos : Pos}
theorem ev_tup {x1 : Nat} (h : Av X R es fs) : Ev X R (.Tuple es x1 pos) (eTup fs) := by
  have key : ∀ {ρ ρ' : List Sl} {r : Sl}, eTup fs ρ = some (r, ρ') → ∃ rs ps, fs ρ = some (rs, ρ') ∧ valsOf rs = some ps ∧ ps.length ≤ lineN ∧ r = .fz (.tup ps) := by
    intro ρ ρ' r q
    unfold eTup at q
    rw [Option.bind_eq_some_iff] at q
    obtain ⟨⟨rs, ρ1⟩, h1, q⟩ := q
    rw [Option.bind_eq_some_iff] at q
    obtain ⟨ps, h2, q⟩ := q
    split at q
    · cases q; exact ⟨rs, ps, h1, h2, by assumption, rfl⟩
    · cases q
  refine ⟨fun ρ r ρ' q => ?_, pe_mono (pe_tup h.pa) fun σ H Q q => ?_⟩
  · obtain ⟨rs, ps, h1, _⟩ := key q
    exact h.len _ _ _ h1
  · obtain ⟨e, F, ρ, tm, r, ρ', hl, hB, hf, k⟩ := q
    obtain ⟨rs, ps, h1, h2, h3, rfl⟩ := key hf
    refine ⟨e, F, ρ, tm, rs, ρ', hl, hB, h1, fun xs H1 F1 B1 k1 => ?_⟩
    rw [valsOf_tmp h2] at B1
    obtain ⟨F2, s2, B2, q2⟩ := B1.vals (Paired.len k1) h2
    exact ⟨by rw [← q2.length, ← lineN_eq]; exact h3, fun p n => k _ _ _ (B2.new_tup n q2) pk_fz⟩
theorem ev_lst (h : Av X R es fs) : Ev X R (.List es pos) (eLst fs) := by
  have key : ∀ {ρ ρ' : List Sl} {r : Sl}, eLst fs ρ = some (r, ρ') → ∃ rs ps, fs ρ = some (rs, ρ') ∧ valsOf rs = some ps ∧ ps.length ≤ lineN ∧ r = .own ps := by
    intro ρ ρ' r q
    unfold eLst at q
    rw [Option.bind_eq_some_iff] at q
    obtain ⟨⟨rs, ρ1⟩, h1, q⟩ := q
    rw [Option.bind_eq_some_iff] at q
    obtain ⟨ps, h2, q⟩ := q
    split at q
    · cases q; exact ⟨rs, ps, h1, h2, by assumption, rfl⟩
    · cases q
  refine ⟨fun ρ r ρ' q => ?_, pe_mono (pe_lst h.pa) fun σ H Q q => ?_⟩
  · obtain ⟨rs, ps, h1, _⟩ := key q
    exact h.len _ _ _ h1
  · obtain ⟨e, F, ρ, tm, r, ρ', hl, hB, hf, k⟩ := q
    obtain ⟨rs, ps, h1, h2, h3, rfl⟩ := key hf
    refine ⟨e, F, ρ, tm, rs, ρ', hl, hB, h1, fun xs H1 F1 B1 k1 => ?_⟩
    rw [valsOf_tmp h2] at B1
    obtain ⟨F2, s2, B2, q2⟩ := B1.vals (Paired.len k1) h2
    exact ⟨by rw [← q2.length, ← lineN_eq]; exact h3, fun p n => k _ _ _ (B2.new_lst n q2) pk_own⟩
end

/-! ### built-in functions -/
inductive RqL (R : RE) (F H : Hp) : List PV → List V → Prop
  | nil : RqL R F H [] []
  | cons {p : PV} {ps : List PV} {v : V} {vs : List V} : Rq R F H p v → RqL R F H ps vs → RqL R F H (p :: ps) (v :: vs)
def eNary (op : List PV → Option Vl) (fs : PFs) : PF := fun ρ => (fs ρ).bind fun x => (conts x.2 x.1).bind fun ps => (op ps).map fun r => (r.sl, x.2)
def CallOk (R : RE) (op : List PV → Option Vl) (rd : List V → Hp → VK → Prop) : Prop := ∀ (e : En) (F H : Hp) (B : Bg) (ps : List PV) (xs : List V) (r : Vl) (Q : VK), Bag R e F H B → RqL R F H ps xs → op ps = some r →
  (∀ z H' F', Bag R e F' H' (B ++ [(r.sl, some z)]) → Q z H') → rd xs H Q
/-- all temporaries read, then dropped -/
theorem Bag.conts {R : RE} {e : En} {F H : Hp} {ρ : List Sl} {σ : L2.St} : ∀ {rs : List Sl} {xs : List V} {tm : Bg} {ps : List PV}, Bag R e F H (ρ.zip σ ++ tm ++ (rs.map tmpOf).zip (xs.map some)) → Paired (fun r x => PkOk r σ x) rs xs → PL.conts ρ rs = some ps →
    RqL R F H ps xs ∧ Bag R e F H (ρ.zip σ ++ tm)
  | [], [], tm, ps, hB, _, h => by
    cases h
    exact ⟨.nil, by simpa using hB⟩
  | r :: rs, x :: xs, tm, ps, hB, k, h => by
    unfold PL.conts at h
    rw [Option.bind_eq_some_iff] at h
    obtain ⟨p, h1, h⟩ := h
    rw [Option.map_eq_some_iff] at h
    obtain ⟨ps', h2, rfl⟩ := h
    cases k with
    | cons k1 k2 =>
      have e1 : (ρ.zip σ ++ tm ++ ((r :: rs).map tmpOf).zip ((x :: xs).map some)) = ρ.zip σ ++ (tm ++ [(tmpOf r, some x)]) ++ (rs.map tmpOf).zip (xs.map some) := by
        rw [← List.append_assoc (ρ.zip σ), List.append_assoc (ρ.zip σ ++ tm)]; rfl
      rw [e1] at hB
      obtain ⟨q1, B1⟩ := Bag.conts hB k2 h2
      have g1 : (ρ.zip σ ++ (tm ++ [(tmpOf r, some x)]))[(ρ.zip σ ++ tm).length]? = some (tmpOf r, some x) := by
        rw [← List.append_assoc]; exact app_last
      have q := B1.rq g1 k1 h1
      rw [← List.append_assoc] at B1
      exact ⟨.cons q q1, B1.pop⟩
section
variable {X : Cx} {R : RE} {a b : Expr} {es : List Expr} {fa fb : PF} {fs : PFs} {pos p : Pos}
theorem eNary_some {op : List PV → Option Vl} {ρ ρ' : List Sl} {r : Sl} (q : eNary op fs ρ = some (r, ρ')) : ∃ rs ps v, fs ρ = some (rs, ρ') ∧ PL.conts ρ' rs = some ps ∧ op ps = some v ∧ r = v.sl := by
  unfold eNary at q
  rw [Option.bind_eq_some_iff] at q
  obtain ⟨⟨rs, ρ1⟩, h1, q⟩ := q
  rw [Option.bind_eq_some_iff] at q
  obtain ⟨ps, h2, q⟩ := q
  rw [Option.map_eq_some_iff] at q
  obtain ⟨v, h3, q⟩ := q
  cases q
  exact ⟨rs, ps, v, h1, h2, h3, rfl⟩
theorem nary_len {op : List PV → Option Vl} (l : ∀ ρ r ρ', fs ρ = some (r, ρ') → ρ'.length = ρ.length) : ∀ ρ r ρ', eNary op fs ρ = some (r, ρ') → ρ'.length = ρ.length := fun ρ r ρ' q => by
  obtain ⟨rs, ps, v, h1, _⟩ := eNary_some q
  exact l _ _ _ h1
theorem tCB_of {op : List PV → Option Vl} {rd : List V → Hp → VK → Prop} (ho : CallOk R op rd) (σ : L2.St) (H : Hp) (Q : VK) (h : TEv R (eNary op fs) σ H Q) : tCB rd (TAv R fs) σ H Q := by
  obtain ⟨e, F, ρ, tm, r, ρ', hl, hB, hf, k⟩ := h
  obtain ⟨rs, ps, v, h1, h2, h3, rfl⟩ := eNary_some hf
  refine ⟨e, F, ρ, tm, rs, ρ', hl, hB, h1, fun xs H1 F1 B1 k1 => ?_⟩
  obtain ⟨q, B2⟩ := Bag.conts B1 k1 h2
  exact ho e F1 H1 _ ps xs v Q B2 q h3 fun z H' F' B' => k z H' F' (by rw [tmp_sl]; exact B') (sl_pk v σ z)
/-- f(e, ..), f a built-in function -/
theorem ev_callB {id : String} {x : Str} {op : List PV → Option Vl} {rd : List V → Hp → VK → Prop} (hc : CallR X (.builtin id) rd) (ho : CallOk R op rd) (hg : Gl X x) (hm : X.mg x = none) (hv : bootBuiltins x = some (.builtin id)) (h : Av X R (a :: es) fs)
    (hn : x ≠ "__name__" := by decide) (hdb : (x == ("__debug__" : Str)) = false := by decide) (he : starEach (a :: es) X.env = (false, eval a X.env) :: starEach es X.env := by rfl) (hpl : (backTo pos (starEach es X.env)).any (·.1) = false := by rfl) :
    Ev X R (.Call (.Name x p) (a :: es) [] pos) (eNary op fs) := ⟨nary_len h.len, pe_mono (pe_callB hc hg hm hv h.pa hn hdb he hpl) (tCB_of ho)⟩
/-- T(e, ..), T a built-in type -/
theorem ev_callTy {T : String} {x : Str} {op : List PV → Option Vl} {rd : List V → Hp → VK → Prop} (hc : CallR X (.type T) rd) (ho : CallOk R op rd) (hg : Gl X x) (hm : X.mg x = none) (hv : bootBuiltins x = some (.type T)) (h : Av X R (a :: es) fs)
    (hn : x ≠ "__name__" := by decide) (hdb : (x == ("__debug__" : Str)) = false := by decide) (he : starEach (a :: es) X.env = (false, eval a X.env) :: starEach es X.env := by rfl) (hpl : (backTo pos (starEach es X.env)).any (·.1) = false := by rfl) :
    Ev X R (.Call (.Name x p) (a :: es) [] pos) (eNary op fs) := ⟨nary_len h.len, pe_mono (pe_callTy hc hg hm hv h.pa hn hdb he hpl) (tCB_of ho)⟩
end

/-! ### which -/
theorem RqL.one {R : RE} {F H : Hp} {p : PV} {xs : List V} (h : RqL R F H [p] xs) : ∃ x, xs = [x] ∧ Rq R F H p x := by
  cases h with
  | cons q r => cases r; exact ⟨_, rfl, q⟩
theorem RqL.two {R : RE} {F H : Hp} {p q : PV} {xs : List V} (h : RqL R F H [p, q] xs) : ∃ x y, xs = [x, y] ∧ Rq R F H p x ∧ Rq R F H q y := by
  cases h with
  | cons q r =>
    cases r with
    | cons q2 r => cases r; exact ⟨_, _, rfl, q, q2⟩
theorem sub_len {R : RE} {F : Hp} {ps : List PV} {vs : List V} (h : RpL R F ps vs) : vs.length = ps.length := h.length.symm
def clLen : List PV → Option Vl
  | [.lst xs] => some (.fz (.int xs.length))
  | [.tup xs] => some (.fz (.int xs.length))
  | [.scr xs] => some (.fz (.int xs.length))
  | [.str z] => if z.length ≤ lineN then some (.fz (.int z.length)) else none
  | _ => none
theorem cok_len {R : RE} : CallOk R clLen (fun xs H Q => ∃ x n, xs = [x] ∧ LenV R.K x H n ∧ Q (.int n) H) := by
  intro e F H B ps xs r Q hB hp ho k
  unfold clLen at ho
  split at ho
  · cases ho
    obtain ⟨x, rfl, q⟩ := hp.one
    obtain ⟨a, vs, rfl, h1, r1⟩ := q.lst hB.sub
    exact ⟨_, _, rfl, .inl ⟨vs, SqL.of h1, r1.length⟩, k _ H F (hB.push_fz (.int _))⟩
  · cases ho
    obtain ⟨x, rfl, q⟩ := hp.one
    obtain ⟨a, vs, rfl, h1, r1⟩ := q.tup hB.sub
    exact ⟨_, _, rfl, .inr ⟨vs, h1, r1.length⟩, k _ H F (hB.push_fz (.int _))⟩
  · cases ho
    obtain ⟨x, rfl, q⟩ := hp.one
    obtain ⟨a, vs, rfl, h1, r1⟩ := q.scr hB.sub
    exact ⟨_, _, rfl, .inl ⟨vs, h1, r1.length⟩, k _ H F (hB.push_fz (.int _))⟩
  · rename_i z
    split at ho
    · rename_i c
      cases ho
      obtain ⟨x, rfl, q⟩ := hp.one
      rw [q.str]
      exact ⟨_, _, rfl, ⟨by rw [← lineN_eq]; exact c, rfl⟩, k _ H F (hB.push_fz (.int _))⟩
    · cases ho
  · cases ho
def clAbs : List PV → Option Vl
  | [.int i] => some (.fz (.int (if i < 0 then -i else i)))
  | _ => none
theorem cok_abs {R : RE} : CallOk R clAbs (fun xs H Q => ∃ i, xs = [.int i] ∧ Q (.int (if i < 0 then -i else i)) H) := by
  intro e F H B ps xs r Q hB hp ho k
  unfold clAbs at ho
  split at ho
  · cases ho
    obtain ⟨x, rfl, q⟩ := hp.one
    rw [q.int]
    exact ⟨_, rfl, k _ H F (hB.push_fz (.int _))⟩
  · cases ho
def clInt : List PV → Option Vl
  | [.int i] => some (.fz (.int i))
  | [.bl b] => some (.fz (.int (if b then 1 else 0)))
  | _ => none
theorem cok_int {R : RE} : CallOk R clInt (fun xs H Q => (∃ i, xs = [.int i] ∧ Q (.int i) H) ∨ ∃ k, xs = [.bl k] ∧ Q (.int (if k then 1 else 0)) H) := by
  intro e F H B ps xs r Q hB hp ho k
  unfold clInt at ho
  split at ho
  · cases ho
    obtain ⟨x, rfl, q⟩ := hp.one
    rw [q.int]
    exact .inl ⟨_, rfl, k _ H F (hB.push_fz (.int _))⟩
  · cases ho
    obtain ⟨x, rfl, q⟩ := hp.one
    rw [q.bl]
    exact .inr ⟨_, rfl, k _ H F (hB.push_fz (.int _))⟩
  · cases ho
/-- ints of a list -/
def intsOf : List PV → Option (List Int)
  | [] => some []
  | .int i :: r => (intsOf r).map fun is => i :: is
  | _ :: _ => none
theorem intsOf_eq : ∀ {ps : List PV} {ns : List Int}, intsOf ps = some ns → ps = ns.map PV.int
  | [], ns, h => by cases h; rfl
  | p :: ps, ns, h => by
    cases p with
    | int i =>
      unfold intsOf at h
      rw [Option.map_eq_some_iff] at h
      obtain ⟨is, h1, rfl⟩ := h
      rw [intsOf_eq h1]; rfl
    | _ => cases h
theorem intsOf_map : ∀ ns : List Int, intsOf (ns.map PV.int) = some ns
  | [] => rfl
  | n :: ns => by rw [List.map_cons, intsOf, intsOf_map ns]; rfl
def blsOf : List PV → Option (List Bool)
  | [] => some []
  | .bl i :: r => (blsOf r).map fun is => i :: is
  | _ :: _ => none
theorem blsOf_eq : ∀ {ps : List PV} {ns : List Bool}, blsOf ps = some ns → ps = ns.map PV.bl
  | [], ns, h => by cases h; rfl
  | p :: ps, ns, h => by
    cases p with
    | bl i =>
      unfold blsOf at h
      rw [Option.map_eq_some_iff] at h
      obtain ⟨is, h1, rfl⟩ := h
      rw [blsOf_eq h1]; rfl
    | _ => cases h
theorem blsOf_map : ∀ ns : List Bool, blsOf (ns.map PV.bl) = some ns
  | [] => rfl
  | n :: ns => by rw [List.map_cons, blsOf, blsOf_map ns]; rfl
/-- the greatest, the least of a list that is not empty -/
def maxL : List Int → Int
  | [] => 0
  | [x] => x
  | x :: r => max x (maxL r)
def minL : List Int → Int
  | [] => 0
  | [x] => x
  | x :: r => min x (minL r)
theorem maxL_ge : ∀ {ns : List Int} {y : Int}, y ∈ ns → y ≤ maxL ns
  | [x], y, h => by simp at h; subst h; exact Int.le_refl _
  | x :: z :: r, y, h => by
    show y ≤ max x (maxL (z :: r))
    rcases List.mem_cons.mp h with rfl | h
    · omega
    · have := maxL_ge h; omega
theorem minL_le : ∀ {ns : List Int} {y : Int}, y ∈ ns → minL ns ≤ y
  | [x], y, h => by simp at h; subst h; exact Int.le_refl _
  | x :: z :: r, y, h => by
    show min x (minL (z :: r)) ≤ y
    rcases List.mem_cons.mp h with rfl | h
    · omega
    · have := minL_le h; omega
theorem maxL_mem : ∀ {ns : List Int}, ns ≠ [] → maxL ns ∈ ns
  | [], h => absurd rfl h
  | [x], _ => by simp [maxL]
  | x :: z :: r, _ => by
    show max x (maxL (z :: r)) ∈ _
    have := maxL_mem (ns := z :: r) (by simp)
    rcases Int.le_total x (maxL (z :: r)) with h | h
    · rw [Int.max_eq_right h]; exact List.mem_cons_of_mem _ this
    · rw [Int.max_eq_left h]; exact List.mem_cons_self
theorem minL_mem : ∀ {ns : List Int}, ns ≠ [] → minL ns ∈ ns
  | [], h => absurd rfl h
  | [x], _ => by simp [minL]
  | x :: z :: r, _ => by
    show min x (minL (z :: r)) ∈ _
    have := minL_mem (ns := z :: r) (by simp)
    rcases Int.le_total x (minL (z :: r)) with h | h
    · rw [Int.min_eq_left h]; exact List.mem_cons_self
    · rw [Int.min_eq_right h]; exact List.mem_cons_of_mem _ this
def clMax : List PV → Option Vl
  | [.int i, .int j] => some (.fz (.int (max i j)))
  | [.lst xs] => (intsOf xs).bind fun ns => if ns.isEmpty then none else some (.fz (.int (maxL ns)))
  | _ => none
def clMin : List PV → Option Vl
  | [.int i, .int j] => some (.fz (.int (min i j)))
  | [.lst xs] => (intsOf xs).bind fun ns => if ns.isEmpty then none else some (.fz (.int (minL ns)))
  | _ => none
theorem cok_max {R : RE} : CallOk R clMax (fun xs H Q => (∃ i j, xs = [.int i, .int j] ∧ Q (.int (if j > i then j else i)) H) ∨ rMax R.K xs H Q) := by
  intro e F H B ps xs r Q hB hp ho k
  unfold clMax at ho
  split at ho
  · rename_i i j
    cases ho
    obtain ⟨x, y, rfl, q1, q2⟩ := hp.two
    rw [q1.int, q2.int]
    refine .inl ⟨i, j, rfl, ?_⟩
    have em : (if j > i then j else i) = max i j := by split <;> omega
    rw [em]
    exact k _ H F (hB.push_fz (.int _))
  · rename_i zs
    rw [Option.bind_eq_some_iff] at ho
    obtain ⟨ns, h1, ho⟩ := ho
    split at ho
    · cases ho
    · rename_i c
      cases ho
      obtain ⟨x, rfl, q⟩ := hp.one
      obtain ⟨a, vs, rfl, h2, r1⟩ := q.lst hB.sub
      rw [intsOf_eq h1] at r1
      rw [r1.ints] at h2
      have hne : ns ≠ [] := fun z => by rw [z] at c; exact c rfl
      refine .inr ⟨a, ns, rfl, SqL.of h2, by cases ns with | nil => exact absurd rfl hne | cons _ _ => simp, fun m hm hle => ?_⟩
      have em : m = maxL ns := by
        have h3 := maxL_ge hm
        have h4 := hle _ (maxL_mem hne)
        omega
      rw [em]
      exact k _ H F (hB.push_fz (.int _))
  · cases ho
theorem cok_min {R : RE} : CallOk R clMin (fun xs H Q => (∃ i j, xs = [.int i, .int j] ∧ Q (.int (if j < i then j else i)) H) ∨ rMin R.K xs H Q) := by
  intro e F H B ps xs r Q hB hp ho k
  unfold clMin at ho
  split at ho
  · rename_i i j
    cases ho
    obtain ⟨x, y, rfl, q1, q2⟩ := hp.two
    rw [q1.int, q2.int]
    refine .inl ⟨i, j, rfl, ?_⟩
    have em : (if j < i then j else i) = min i j := by split <;> omega
    rw [em]
    exact k _ H F (hB.push_fz (.int _))
  · rename_i zs
    rw [Option.bind_eq_some_iff] at ho
    obtain ⟨ns, h1, ho⟩ := ho
    split at ho
    · cases ho
    · rename_i c
      cases ho
      obtain ⟨x, rfl, q⟩ := hp.one
      obtain ⟨a, vs, rfl, h2, r1⟩ := q.lst hB.sub
      rw [intsOf_eq h1] at r1
      rw [r1.ints] at h2
      have hne : ns ≠ [] := fun z => by rw [z] at c; exact c rfl
      refine .inr ⟨a, ns, rfl, SqL.of h2, by cases ns with | nil => exact absurd rfl hne | cons _ _ => simp, fun m hm hle => ?_⟩
      have em : m = minL ns := by
        have h3 := minL_le hm
        have h4 := hle _ (minL_mem hne)
        omega
      rw [em]
      exact k _ H F (hB.push_fz (.int _))
  · cases ho
theorem callr_max {X : Cx} (hc : X.calm = true) : CallR X (.builtin "max") (fun xs H Q => (∃ i j, xs = [.int i, .int j] ∧ Q (.int (if j > i then j else i)) H) ∨ rMax X.K xs H Q) := (call_max2 hc).or (cr_max hc)
theorem callr_min {X : Cx} (hc : X.calm = true) : CallR X (.builtin "min") (fun xs H Q => (∃ i j, xs = [.int i, .int j] ∧ Q (.int (if j < i then j else i)) H) ∨ rMin X.K xs H Q) := (call_min2 hc).or (cr_min hc)
def clSum : List PV → Option Vl
  | [.lst xs] => (intsOf xs).map fun ns => .fz (.int ns.sum)
  | _ => none
theorem cok_sum {R : RE} : CallOk R clSum (rSum R.K) := by
  intro e F H B ps xs r Q hB hp ho k
  unfold clSum at ho
  split at ho
  · rename_i zs
    rw [Option.map_eq_some_iff] at ho
    obtain ⟨ns, h1, rfl⟩ := ho
    obtain ⟨x, rfl, q⟩ := hp.one
    obtain ⟨a, vs, rfl, h2, r1⟩ := q.lst hB.sub
    rw [intsOf_eq h1] at r1
    rw [r1.ints] at h2
    exact ⟨a, ns, rfl, SqL.of h2, k _ H F (hB.push_fz (.int _))⟩
  · cases ho
def clAll : List PV → Option Vl
  | [.lst xs] => (blsOf xs).map fun ns => .fz (.bl (ns.all id))
  | _ => none
def clAny : List PV → Option Vl
  | [.lst xs] => (blsOf xs).map fun ns => .fz (.bl (ns.any id))
  | _ => none
theorem cok_all {R : RE} : CallOk R clAll (rAll R.K) := by
  intro e F H B ps xs r Q hB hp ho k
  unfold clAll at ho
  split at ho
  · rename_i zs
    rw [Option.map_eq_some_iff] at ho
    obtain ⟨ns, h1, rfl⟩ := ho
    obtain ⟨x, rfl, q⟩ := hp.one
    obtain ⟨a, vs, rfl, h2, r1⟩ := q.lst hB.sub
    rw [blsOf_eq h1] at r1
    rw [r1.bls] at h2
    exact ⟨a, ns, rfl, SqL.of h2, k _ H F (hB.push_fz (.bl _))⟩
  · cases ho
theorem cok_any {R : RE} : CallOk R clAny (rAny R.K) := by
  intro e F H B ps xs r Q hB hp ho k
  unfold clAny at ho
  split at ho
  · rename_i zs
    rw [Option.map_eq_some_iff] at ho
    obtain ⟨ns, h1, rfl⟩ := ho
    obtain ⟨x, rfl, q⟩ := hp.one
    obtain ⟨a, vs, rfl, h2, r1⟩ := q.lst hB.sub
    rw [blsOf_eq h1] at r1
    rw [r1.bls] at h2
    exact ⟨a, ns, rfl, SqL.of h2, k _ H F (hB.push_fz (.bl _))⟩
  · cases ho
def clTuple : List PV → Option Vl
  | [.lst xs] => some (.fz (.tup xs))
  | [.tup xs] => some (.fz (.tup xs))
  | _ => none
theorem cok_tuple {R : RE} : CallOk R clTuple (fun xs H Q => ∃ p ys, xs = [.ref p] ∧ ((SqL R.K H p ys ∧ ∀ l, H l = none → Q (.ref l) (upd H l (.tup ys))) ∨ (SqT R.K H p ys ∧ Q (.ref p) H))) := by
  intro e F H B ps xs r Q hB hp ho k
  unfold clTuple at ho
  split at ho
  · cases ho
    obtain ⟨x, rfl, q⟩ := hp.one
    obtain ⟨a, vs, rfl, h2, r1⟩ := q.lst hB.sub
    exact ⟨a, vs, rfl, .inl ⟨SqL.of h2, fun l n => k _ _ _ (hB.new_tup n r1)⟩⟩
  · cases ho
    obtain ⟨x, rfl, q⟩ := hp.one
    have q' := q
    obtain ⟨a, vs, rfl, h2, r1⟩ := q.tup hB.sub
    rcases q' with h | ⟨_, _, _, _, z, _⟩
    · exact ⟨a, vs, rfl, .inr ⟨h2, k _ H F (hB.push_fz h)⟩⟩
    · cases z
  · cases ho
def clList : List PV → Option Vl
  | [.lst xs] => some (.own xs)
  | [.tup xs] => some (.own xs)
  | [.scr xs] => some (.own xs)
  | _ => none
theorem cok_list {R : RE} : CallOk R clList (fun xs H Q => ∃ p ys, xs = [.ref p] ∧ (SqL R.K H p ys ∨ SqT R.K H p ys) ∧ ∀ l, H l = none → Q (.ref l) (upd H l (.lst ys))) := by
  intro e F H B ps xs r Q hB hp ho k
  unfold clList at ho
  split at ho
  · cases ho
    obtain ⟨x, rfl, q⟩ := hp.one
    obtain ⟨a, vs, rfl, h2, r1⟩ := q.lst hB.sub
    exact ⟨a, vs, rfl, .inl (SqL.of h2), fun l n => k _ _ _ (hB.new_lst n r1)⟩
  · cases ho
    obtain ⟨x, rfl, q⟩ := hp.one
    obtain ⟨a, vs, rfl, h2, r1⟩ := q.tup hB.sub
    exact ⟨a, vs, rfl, .inr h2, fun l n => k _ _ _ (hB.new_lst n r1)⟩
  · cases ho
    obtain ⟨x, rfl, q⟩ := hp.one
    obtain ⟨a, vs, rfl, h2, r1⟩ := q.scr hB.sub
    exact ⟨a, vs, rfl, .inl h2, fun l n => k _ _ _ (hB.new_lst n r1)⟩
  · cases ho

/-! ### isinstance -/
def tyP : PV → Option Ty
  | .non => some .non
  | .bl _ => some .bool
  | .int _ => some .int
  | .str _ => some .str
  | .tup _ => some .tuple
  | .lst _ => some .list
  | .scr _ => some .list
  | .dct _ _ => some .dict
  | _ => none
def subTy : Ty → Ty → Bool
  | .bool, .int => true
  | a, b => decide (a = b)
theorem kit_sub : ∀ a b : Ty, b ≠ .non → kitB a.nm b.nm = some (subTy a b) := by
  intro a b h
  cases a <;> cases b <;> first | exact absurd rfl h | decide +kernel
/-- isinstance(p, t) -/
def isTy (p : PV) (t : Ty) : Option Bool := if t = .non then none else (tyP p).map fun s => subTy s t
def isAny (p : PV) : List PV → Option Bool
  | [] => some false
  | .ty t :: r => (isTy p t).bind fun b => (isAny p r).map fun c => b || c
  | _ :: _ => none
def clIsi : List PV → Option Vl
  | [p, .ty t] => (isTy p t).map fun b => .fz (.bl b)
  | [p, .tup (t :: ts)] => (isAny p (t :: ts)).map fun b => .fz (.bl b)
  | _ => none
theorem tyx_of {R : RE} {H : Hp} {p : PV} {x : V} {t : Ty} (h : Rp R H p x) (e : tyP p = some t) : TyX R.K H x (.type t.nm) := by
  cases h with
  | non => cases e; exact .base .non
  | bl b => cases e; exact .base (.bl b)
  | int i => cases e; exact .base (.int i)
  | str i => cases e; exact .base (.str i)
  | tup q r =>
    cases e
    rcases q with q | ⟨o, its, n, q1, q2, _⟩
    · exact .base (.tup q)
    · exact .kTuple q1 q2
  | lst q r => cases e; exact .base (.lst q)
  | scr q r =>
    cases e
    rcases q with (q | ⟨o, q⟩) | ⟨o, its, n, q1, q2, _⟩
    · exact .base (.lst q)
    · exact .base (.frz q)
    · exact .kList q1 q2
  | dct q l r => cases e; exact .base (.dK q)
  | _ => cases e
theorem isTy_ok {R : RE} {p : PV} {s t : Ty} {b : Bool} (hs : tyP p = some s) (h : isTy p t = some b) : PySem.W.kitOne R.K (.type s.nm) (.type t.nm) = some b := by
  unfold isTy at h
  rw [hs] at h
  by_cases ht : t = .non
  · rw [if_pos ht] at h; cases h
  · rw [if_neg ht] at h
    cases h
    exact kit_ty (kit_sub s t ht)
theorem isTy_ty {p : PV} {t : Ty} {b : Bool} (h : isTy p t = some b) : ∃ s, tyP p = some s := by
  unfold isTy at h
  split at h
  · cases h
  · rw [Option.map_eq_some_iff] at h
    obtain ⟨s, h, _⟩ := h
    exact ⟨s, h⟩
theorem isAny_ok {R : RE} {F : Hp} {p : PV} {s : Ty} (hs : tyP p = some s) : ∀ {ts : List PV} {vs : List V} {b : Bool}, RpL R F ts vs → isAny p ts = some b → ∃ us, Paired ClsV vs us ∧ PySem.W.kitAny R.K (.type s.nm) us = some b
  | [], _, b, .nil, h => by cases h; exact ⟨[], .nil, kitAny_nil⟩
  | q :: ts, _, b, .cons r1 r2, h => by
    cases r1 with
    | ty t =>
      unfold isAny at h
      rw [Option.bind_eq_some_iff] at h
      obtain ⟨b1, h1, h⟩ := h
      rw [Option.map_eq_some_iff] at h
      obtain ⟨c, h2, h⟩ := h
      obtain ⟨us, u1, u2⟩ := isAny_ok hs r2 h2
      have hk := isTy_ok (R := R) hs h1
      refine ⟨_, .cons (.ty _) u1, kitAny_cons hk (fun z => ?_) fun z => ?_⟩
      · rw [z] at h; rw [u2, ← h]; rfl
      · rw [z] at h; rw [← h]; rfl
    | _ => cases h
theorem cok_isi {R : RE} : CallOk R clIsi (fun xs H Q => rIsi R.K xs H Q ∨ (rIsiT R.K xs H Q ∨ rIsiK R.K xs H Q)) := by
  intro e F H B ps xs r Q hB hp ho k
  unfold clIsi at ho
  split at ho
  · rename_i p t
    rw [Option.map_eq_some_iff] at ho
    obtain ⟨b, h1, rfl⟩ := ho
    obtain ⟨x, y, rfl, q1, q2⟩ := hp.two
    obtain ⟨s, hs⟩ := isTy_ty h1
    have q2' := q2.rp hB.sub
    cases q2'
    exact .inl ⟨x, _, _, _, b, rfl, .ty _, tyx_of (q1.rp hB.sub) hs, isTy_ok hs h1, k _ H F (hB.push_fz (.bl _))⟩
  · rename_i p t0 ts
    rw [Option.map_eq_some_iff] at ho
    obtain ⟨b, h1, rfl⟩ := ho
    obtain ⟨x, y, rfl, q1, q2⟩ := hp.two
    cases q2.rp hB.sub with
    | tup q3 r1 =>
      cases hs : tyP p with
      | none =>
        unfold isAny at h1
        split at h1
        · rename_i e1; cases e1
        · rename_i t r e1
          rw [Option.bind_eq_some_iff] at h1
          obtain ⟨b1, h3, _⟩ := h1
          obtain ⟨s, hs'⟩ := isTy_ty h3
          rw [hs] at hs'; cases hs'
        · cases h1
      | some s =>
        obtain ⟨us, u1, u2⟩ := isAny_ok hs r1 h1
        have ty := tyx_of (q1.rp hB.sub) hs
        have fin : Q (.bl b) H := k _ H F (hB.push_fz (.bl _))
        rcases q3 with q3 | ⟨⟨oc, od, dt, sl⟩, its, n, e1, e2, e3, e4, e5⟩
        · exact .inr (.inl ⟨x, _, _, _, us, b, rfl, q3, u1, ty, u2, fin⟩)
        · simp only at e2 e3
          subst e2 e3
          have e6 := ClsV.all u1 e5
          refine .inr (.inr ⟨x, _, od, us, n, sl, _, b, rfl, ?_, ty, u2, fin⟩)
          rw [e1, ← e6]
  · cases ho
end PL
set_option Elab.async false
set_option linter.all false
set_option maxRecDepth 100000
set_option maxHeartbeats 4000000
/-! PLf: bags rearranged; calls of defs; instances. -/
namespace PL
open PySem PySem.Spec PyProof.Rows L2

section
variable {R : RE} {e : En} {F H : Hp} {B : Bg}
def Apart (p q : Sl × Option V) : Prop := ∀ a, adr p.1 p.2 = some a → adr q.1 q.2 ≠ some a
theorem Bag.apart (h : Bag R e F H B) : B.Pairwise Apart := by
  rw [List.pairwise_iff_getElem]
  intro i j hi hj hij a h1 h2
  have := h.dis i j B[i].1 B[j].1 B[i].2 B[j].2 a (List.getElem?_eq_getElem hi) (List.getElem?_eq_getElem hj) h1 h2
  omega
theorem Bag.mem (h : Bag R e F H B) {p : Sl × Option V} (hp : p ∈ B) : SlR R F H p.1 p.2 := by
  obtain ⟨i, hi, rfl⟩ := List.getElem_of_mem hp
  exact h.all i _ _ (List.getElem?_eq_getElem hi)
theorem Bag.mem_ow (h : Bag R e F H B) {p : Sl × Option V} (hp : p ∈ B) {a : Addr} (ha : adr p.1 p.2 = some a) : e.H a = none ∨ a ∈ e.W := by
  obtain ⟨i, hi, rfl⟩ := List.getElem_of_mem hp
  exact h.ow i _ _ a (List.getElem?_eq_getElem hi) ha
/-- another bag over the same heaps -/
theorem Bag.of (h : Bag R e F H B) {C : Bg} (hs : ∀ p ∈ C, SlR R F H p.1 p.2) (ha : C.Pairwise Apart) (ho : ∀ p ∈ C, ∀ a, adr p.1 p.2 = some a → e.H a = none ∨ a ∈ e.W) : Bag R e F H C := by
  refine ⟨h.sub, fun i s o g => hs (s, o) (List.mem_of_getElem? g), fun i j s t o u a g1 g2 a1 a2 => ?_, h.fr, h.frW, fun i s o a g a1 => ho (s, o) (List.mem_of_getElem? g) a a1, h.hf, h.hf0⟩
  rw [List.pairwise_iff_getElem] at ha
  obtain ⟨hi, ei⟩ := List.getElem?_eq_some_iff.mp g1
  obtain ⟨hj, ej⟩ := List.getElem?_eq_some_iff.mp g2
  rcases Nat.lt_trichotomy i j with z | z | z
  · exact absurd (by rw [ej]; exact a2) (ha i j hi hj z a (by rw [ei]; exact a1))
  · exact z
  · exact absurd (by rw [ei]; exact a1) (ha j i hj hi z a (by rw [ej]; exact a2))
theorem Bag.perm (h : Bag R e F H B) {C : Bg} (p : B.Perm C) : Bag R e F H C :=
  h.of (fun q hq => h.mem (p.mem_iff.mpr hq)) (h.apart.perm p fun {x y} z a h1 h2 => z a h2 h1) fun q hq a => h.mem_ow (p.mem_iff.mpr hq)
theorem Bag.sublist (h : Bag R e F H B) {C : Bg} (p : C.Sublist B) : Bag R e F H C :=
  h.of (fun q hq => h.mem (p.subset hq)) (h.apart.sublist p) fun q hq a => h.mem_ow (p.subset hq)
/-- at each place the old content, or one that owns nothing -/
theorem Bag.repl (h : Bag R e F H B) {C : Bg} (r : ∀ (i : Nat) (p : Sl × Option V), C[i]? = some p → B[i]? = some p ∨ (adr p.1 p.2 = none ∧ SlR R F H p.1 p.2)) : Bag R e F H C := by
  refine ⟨h.sub, fun i s o g => ?_, fun i j s t o u a g1 g2 a1 a2 => ?_, h.fr, h.frW, fun i s o a g a1 => ?_, h.hf, h.hf0⟩
  · rcases r i _ g with z | z
    · exact h.all i s o z
    · exact z.2
  · rcases r i _ g1 with z | z
    · rcases r j _ g2 with y | y
      · exact h.dis i j s t o u a z y a1 a2
      · rw [a2] at y; cases y.1
    · rw [a1] at z; cases z.1
  · rcases r i _ g with z | z
    · exact h.ow i s o a z a1
    · rw [a1] at z; cases z.1
theorem Bag.drop_mid {C : Bg} {p : Sl × Option V} (h : Bag R e F H (B ++ p :: C)) : Bag R e F H (B ++ C) :=
  h.sublist ((List.Sublist.refl B).append (List.sublist_cons_self p C))
theorem Bag.move_mid {C : Bg} {t : Sl} {u : Option V} (h : Bag R e F H (B ++ (t, u) :: C)) {i : Nat} (hi : i < B.length) : Bag R e F H (B.set i (t, u) ++ C) := by
  have p : (B ++ (t, u) :: C).Perm ((B ++ C) ++ [(t, u)]) := by
    rw [List.append_assoc]
    exact (List.Perm.refl B).append ((List.perm_append_singleton (t, u) C).symm)
  have h2 := (h.perm p).move (i := i) (by rw [List.length_append]; omega)
  rw [List.set_append_left _ _ hi] at h2
  exact h2

/-- what is lent: the own addresses -/
def lentOf (A : Bg) : List Addr := A.filterMap fun p => adr p.1 p.2
theorem mem_lent {A : Bg} {a : Addr} : a ∈ lentOf A ↔ ∃ p ∈ A, adr p.1 p.2 = some a := by
  unfold lentOf
  rw [List.mem_filterMap]
/-- the bag as a callee finds it -/
theorem Bag.enter (h : Bag R e F H B) : Bag R ⟨H, F, lentOf B⟩ F H B :=
  ⟨h.sub, h.all, h.dis, fun _ _ q _ => q, fun a ha => by
    obtain ⟨p, hp, q⟩ := mem_lent.mp ha
    obtain ⟨_, u, z⟩ := (h.mem hp).own_of q
    rw [z]; exact (fun z => nomatch z), fun i s o a g q => .inr (mem_lent.mpr ⟨_, List.mem_of_getElem? g, q⟩), fun _ _ q => .inl q, .refl⟩
/-- behind a call: what was not lent is as it was -/
theorem Bag.leave {A A' : Bg} {F' H' : Hp} (h : Bag R e F H (B ++ A)) (h' : Bag R ⟨H, F, lentOf A⟩ F' H' A') : Bag R e F' H' (B ++ A') := by
  have sF : Sub F F' := h'.hf0
  have cB : ∀ p ∈ B, ∀ a, adr p.1 p.2 = some a → a ∉ lentOf A ∧ F a = none ∧ ∃ u, H a = some u := fun p hp a ha => by
    refine ⟨fun z => ?_, (h.mem (List.mem_append_left _ hp)).own_of ha⟩
    obtain ⟨q, hq, hqa⟩ := mem_lent.mp z
    exact (List.pairwise_append.mp h.apart).2.2 p hp q hq a ha hqa
  have hk : ∀ p ∈ B, ∀ a, adr p.1 p.2 = some a → F' a = none ∧ H' a = H a := fun p hp a ha => by
    obtain ⟨n, f, u, hu⟩ := cB p hp a ha
    refine ⟨?_, by rw [h'.fr a u hu n, hu]⟩
    cases q : F' a with
    | none => rfl
    | some o =>
      rcases h'.hf a o q with z | z | z
      · have z' : F a = some o := z
        rw [f] at z'; cases z'
      · have z' : H a = none := z
        rw [hu] at z'; cases z'
      · exact absurd z n
  have eA : ∀ a ∈ lentOf A, e.H a = none ∨ a ∈ e.W := fun a ha => by
    obtain ⟨q, hq, hqa⟩ := mem_lent.mp ha
    exact h.mem_ow (List.mem_append_right _ hq) hqa
  have eN : ∀ a, H a = none → e.H a = none := fun a n => (h.new n).2.2.2
  have base : Bag R e F' H' [] := by
    refine ⟨h'.sub, fun i s o g => by simp at g, fun i j s t o u a g1 _ _ _ => by simp at g1, fun a o q w => ?_, fun a w z => ?_, fun i s o a g _ => by simp at g, fun a o q => ?_, h.hf0.trans sF⟩
    · refine h'.fr a o (h.fr a o q w) fun z => ?_
      rcases eA a z with y | y
      · rw [q] at y; cases y
      · exact w y
    · by_cases y : a ∈ lentOf A
      · exact h'.frW a y z
      · cases q : H a with
        | none => exact h.frW a w q
        | some u => rw [h'.fr a u q y] at z; cases z
    · rcases h'.hf a o q with z | z | z
      · exact h.hf a o z
      · exact .inr (.inl (eN a z))
      · exact .inr (eA a z)
  refine base.of (fun p hp => ?_) ?_ fun p hp a ha => ?_
  · rcases List.mem_append.mp hp with hp | hp
    · exact (h.mem (List.mem_append_left _ hp)).keep sF (hk p hp)
    · exact h'.mem hp
  · rw [List.pairwise_append]
    refine ⟨(List.pairwise_append.mp h.apart).1, h'.apart, fun p hp q hq a ha hqa => ?_⟩
    obtain ⟨n, f, u, hu⟩ := cB p hp a ha
    rcases h'.mem_ow hq hqa with z | z
    · have z' : H a = none := z
      rw [hu] at z'; cases z'
    · exact n z
  · rcases List.mem_append.mp hp with hp | hp
    · exact h.mem_ow (List.mem_append_left _ hp) ha
    · rcases h'.mem_ow hp ha with z | z
      · exact .inl (eN a z)
      · exact eA a z
end

/-! ### what a def promises -/
abbrev FP := List Sl → Option (Vl × List Sl)
/-- the promise: vs hold the contents as, f tells the answer and what comes back -/
def spF (R : RE) (n : Nat) (f : FP) : Sp := fun vs H Q _ => vs.length = n ∧ ∃ (F : Hp) (as : List Sl) (r : Vl) (as' : List Sl), as.length = n ∧ (∃ e0, Bag R e0 F H (as.zip (vs.map some))) ∧ f as = some (r, as') ∧
  ∀ x H' F', Bag R ⟨H, F, lentOf (as.zip (vs.map some))⟩ F' H' (as'.zip (vs.map some) ++ [(r.sl, some x)]) → Q x H'
/-- a def that is told by a function of its arguments' contents -/
structure FnP (P : Program) (w : World) (K : PySem.W.Frag) (mg : Str → Option Value) (base : Heap) (R : RE) (k : Nat) (f : Addr) (fd : FuncData) (ps : List Str) (fn : FP) : Prop where
  len : ∀ as r as', as.length = ps.length → fn as = some (r, as') → as'.length = as.length
  ok : FnOk P w K mg base CX0 k f fd ps (spF R ps.length fn)
/-- another function with the same answers -/
theorem FnP.imp {P : Program} {w : World} {K : PySem.W.Frag} {mg : Str → Option Value} {base : Heap} {R : RE} {k : Nat} {f : Addr} {fd : FuncData} {ps : List Str} {fn fn' : FP} (h : FnP P w K mg base R k f fd ps fn) (i : ∀ as r, fn' as = some r → fn as = some r) : FnP P w K mg base R k f fd ps fn' :=
  ⟨fun as r as' l q => h.len as r as' l (i as _ q), h.ok.imp fun vs H Q E ⟨l, F, as, r, as', la, hb, q, t⟩ => ⟨l, F, as, r, as', la, hb, i as _ q, t⟩⟩
/-- what was lent comes back -/
def putB : List Sl → List Sl → List Sl → List Sl
  | .br i _ :: as, s :: ss, ρ => putB as ss (ρ.set i s)
  | _ :: as, _ :: ss, ρ => putB as ss ρ
  | _, _, ρ => ρ
theorem putB_len : ∀ (as ss ρ : List Sl), (putB as ss ρ).length = ρ.length
  | [], _, ρ => by unfold putB; rfl
  | a :: as, [], ρ => by cases a <;> (unfold putB; rfl)
  | a :: as, s :: ss, ρ => by
    cases a <;> (unfold putB; first | exact putB_len as ss ρ | (rw [putB_len as ss, List.length_set]))
def eCall (f : FP) (fs : PFs) : PF := fun ρ => (fs ρ).bind fun x => (f (x.1.map tmpOf)).map fun y => (y.1.sl, putB x.1 y.2 x.2)
section
variable {R : RE} {e : En} {F H : Hp}
/-- the lent contents go home, the others away -/
theorem Bag.home {σ : L2.St} {tm C : Bg} : ∀ {as ss : List Sl} {xs : List V} {ρ : List Sl}, as.length = ss.length → ρ.length = σ.length → Paired (fun r x => PkOk r σ x) as xs → Bag R e F H (ρ.zip σ ++ tm ++ (ss.zip (xs.map some) ++ C)) → Bag R e F H ((putB as ss ρ).zip σ ++ tm ++ C)
  | [], [], [], ρ, _, _, _, h => by unfold putB; exact h
  | [], _ :: _, _, _, l, _, _, _ => by cases l
  | a :: as, [], _, _, l, _, _, _ => by cases l
  | a :: as, s :: ss, x :: xs, ρ, l, hl, .cons k ks, h => by
    have l' : as.length = ss.length := by simpa using l
    have e1 : (s :: ss).zip ((x :: xs).map some) = (s, some x) :: ss.zip (xs.map some) := rfl
    rw [e1, List.cons_append] at h
    have drop : Bag R e F H ((putB as ss ρ).zip σ ++ tm ++ C) := Bag.home l' hl ks h.drop_mid
    cases a with
    | br i t =>
      have hi := k i (.inr ⟨t, rfl⟩)
      unfold putB
      have hlt : i < (ρ.zip σ ++ tm).length := by
        have := (List.getElem?_eq_some_iff.mp hi).1
        rw [List.length_append, List.length_zip]; omega
      have h2 := h.move_mid hlt
      have hz : i < (ρ.zip σ).length := by
        have := (List.getElem?_eq_some_iff.mp hi).1
        rw [List.length_zip]; omega
      rw [List.set_append_left _ _ hz, ← zip_set hi] at h2
      exact Bag.home l' (by rw [List.length_set]; exact hl) ks h2
    | _ => unfold putB; exact drop
theorem tmp_adr {s : Sl} : True := trivial
end
section
variable {X : Cx} {R : RE} {a b : Expr} {es : List Expr} {fs : PFs} {pos p : Pos} {k : Nat} {f C : Addr} {fd : FuncData} {ps : List Str} {fn : FP} {x : Str}
theorem eCall_some {ρ ρ' : List Sl} {r : Sl} (q : eCall fn fs ρ = some (r, ρ')) : ∃ rs ρ1 v ss, fs ρ = some (rs, ρ1) ∧ fn (rs.map tmpOf) = some (v, ss) ∧ r = v.sl ∧ ρ' = putB rs ss ρ1 := by
  unfold eCall at q
  rw [Option.bind_eq_some_iff] at q
  obtain ⟨⟨rs, ρ1⟩, h1, q⟩ := q
  rw [Option.map_eq_some_iff] at q
  obtain ⟨⟨v, ss⟩, h2, q⟩ := q
  cases q
  exact ⟨rs, ρ1, v, ss, h1, h2, rfl, rfl⟩
theorem call_len (l : ∀ ρ r ρ', fs ρ = some (r, ρ') → ρ'.length = ρ.length) : ∀ ρ r ρ', eCall fn fs ρ = some (r, ρ') → ρ'.length = ρ.length := fun ρ r ρ' q => by
  obtain ⟨rs, ρ1, v, ss, h1, h2, _, rfl⟩ := eCall_some q
  rw [putB_len]; exact l _ _ _ h1
/-- the arguments' bag, then the callee's promise -/
theorem spF_of {e : En} {F1 H1 : Hp} {ρ1 : List Sl} {σ : L2.St} {tm : Bg} {rs ss : List Sl} {xs : List V} {v : Vl} {n : Nat} {Q : VK} {E : XK} (lf : ∀ as r as', as.length = n → fn as = some (r, as') → as'.length = as.length) (hn : rs.length = n) (hl : ρ1.length = σ.length)
    (B1 : Bag R e F1 H1 (ρ1.zip σ ++ tm ++ (rs.map tmpOf).zip (xs.map some))) (k1 : Paired (fun r x => PkOk r σ x) rs xs) (h2 : fn (rs.map tmpOf) = some (v, ss))
    (kk : ∀ z H' F', Bag R e F' H' ((putB rs ss ρ1).zip σ ++ tm ++ [(v.sl, some z)]) → Q z H') : spF R n fn xs H1 Q E := by
  have lx := Paired.len k1
  refine ⟨by omega, F1, rs.map tmpOf, v, ss, by simpa using hn, ⟨_, B1.sublist (List.sublist_append_right _ _)⟩, h2, fun z H' F' B' => kk z H' F' ?_⟩
  have ls := lf _ _ _ (by rw [List.length_map]; exact hn) h2
  rw [List.length_map] at ls
  exact Bag.home (C := [(v.sl, some z)]) ls.symm hl k1 (B1.leave B')
theorem ev_call (hf : FnP X.prog X.w X.K X.mg X.base R k f fd ps fn) (hr : Room k X.A) (hg : Gl X x) (hm : X.mg x = some (.ref f)) (hk : PySem.W.keepIn X.K (.ref f) = true) (hb : Binds X.K fd ps []) (ha : Av X R (a :: es) fs) (hn : (a :: es).length = ps.length := by rfl)
    (hdb : (x == ("__debug__" : Str)) = false := by decide) (he : starEach (a :: es) X.env = (false, eval a X.env) :: starEach es X.env := by rfl) (hpl : (backTo pos (starEach es X.env)).any (·.1) = false := by rfl) :
    Ev X R (.Call (.Name x p) (a :: es) [] pos) (eCall fn fs) := by
  refine ⟨call_len ha.len, pe_mono (pe_call hf.ok hr hg hm hk hb .nil pass0 ha.pa hdb he hpl) fun σ H Q h => ?_⟩
  obtain ⟨e, F, ρ, tm, r, ρ', hl, hB, hf', kk⟩ := h
  obtain ⟨rs, ρ1, v, ss, h1, h2, rfl, rfl⟩ := eCall_some hf'
  refine ⟨e, F, ρ, tm, rs, ρ1, hl, hB, h1, fun xs H1 F1 B1 k1 => ?_⟩
  show spF R ps.length fn (xs ++ []) H1 Q E0
  rw [List.append_nil]
  exact spF_of hf.len ((ha.cnt _ _ _ h1).trans hn) ((ha.len _ _ _ h1).trans hl) B1 k1 h2 fun z H' F' B' => kk z H' F' (by rw [tmp_sl]; exact B') (sl_pk v σ z)
theorem ev_call0 (hf : FnP X.prog X.w X.K X.mg X.base R k f fd ps fn) (hr : Room k X.A) (hg : Gl X x) (hm : X.mg x = some (.ref f)) (hk : PySem.W.keepIn X.K (.ref f) = true) (hb : Binds X.K fd ps []) (hn : 0 = ps.length := by rfl)
    (hdb : (x == ("__debug__" : Str)) = false := by decide) : Ev X R (.Call (.Name x p) [] [] pos) (eCall fn aNil) := by
  refine ⟨call_len (av_nil (X := X) (R := R)).len, pe_mono (pe_call0 hf.ok hr hg hm hk hb .nil pass0 hdb) fun σ H Q h => ?_⟩
  obtain ⟨e, F, ρ, tm, r, ρ', hl, hB, hf', kk⟩ := h
  obtain ⟨rs, ρ1, v, ss, h1, h2, rfl, rfl⟩ := eCall_some hf'
  cases h1
  refine spF_of (rs := []) (xs := []) (E := E0) hf.len hn hl (by simpa using hB) .nil h2 fun z H' F' B' => kk z H' F' (by rw [tmp_sl]; exact B') (sl_pk v σ z)
end

/-! ### instances -/
/-- C(..): __init__ fills a new instance -/
def eMake (c n : Nat) (f : FP) (fs : PFs) : PF := fun ρ => (fs ρ).bind fun x => (f (.obj c [] :: x.1.map tmpOf)).bind fun y => match y with
  | (.fz .non, .obj c' zs :: ss) => if c' = c ∧ zs.length = n then some (.fz (.ins c zs), putB x.1 ss x.2) else none
  | _ => none
section
variable {X : Cx} {R : RE} {a b : Expr} {es : List Expr} {fs : PFs} {fa : PF} {pos p : Pos} {k : Nat} {f C : Addr} {fd : FuncData} {ps : List Str} {fn : FP} {x : Str} {c n : Nat}
theorem eMake_some {ρ ρ' : List Sl} {r : Sl} (q : eMake c n fn fs ρ = some (r, ρ')) : ∃ rs ρ1 zs ss, fs ρ = some (rs, ρ1) ∧ fn (.obj c [] :: rs.map tmpOf) = some (.fz .non, .obj c zs :: ss) ∧ zs.length = n ∧ r = .fz (.ins c zs) ∧ ρ' = putB rs ss ρ1 := by
  unfold eMake at q
  rw [Option.bind_eq_some_iff] at q
  obtain ⟨⟨rs, ρ1⟩, h1, q⟩ := q
  rw [Option.bind_eq_some_iff] at q
  obtain ⟨y, h2, q⟩ := q
  split at q
  · rename_i c' zs ss
    split at q
    · rename_i cc
      cases q
      obtain ⟨rfl, l⟩ := cc
      exact ⟨rs, ρ1, zs, ss, h1, h2, l, rfl, rfl⟩
    · cases q
  · cases q
theorem ev_make (M : Mk X.K (R.cl c) f) (hf : FnP X.prog X.w X.K X.mg X.base R k f fd ps fn) (hfl : (R.fl c).length = n) (hr : Room (k + 1) X.A) (hg : Gl X x) (hm : X.mg x = some (.ref (R.cl c))) (hb : Binds X.K fd ps []) (ha : Av X R (a :: es) fs) (hn : (a :: es).length + 1 = ps.length := by rfl)
    (hdb : (x == ("__debug__" : Str)) = false := by decide) (he : starEach (a :: es) X.env = (false, eval a X.env) :: starEach es X.env := by rfl) (hpl : (backTo pos (starEach es X.env)).any (·.1) = false := by rfl) :
    Ev X R (.Call (.Name x p) (a :: es) [] pos) (eMake c n fn fs) := by
  refine ⟨fun ρ r ρ' q => ?_, pe_mono (pe_make M hf.ok hr hg hm hb .nil pass0 ha.pa hdb he hpl) fun σ H Q h => ?_⟩
  · obtain ⟨rs, ρ1, zs, ss, h1, h2, _, _, rfl⟩ := eMake_some q
    rw [putB_len]; exact ha.len _ _ _ h1
  · obtain ⟨e, F, ρ, tm, r, ρ', hl, hB, hf', kk⟩ := h
    obtain ⟨rs, ρ1, zs, ss, h1, h2, lz, rfl, rfl⟩ := eMake_some hf'
    refine ⟨e, F, ρ, tm, rs, ρ1, hl, hB, h1, fun xs H1 F1 B1 k1 y dx ny ndx ne => ?_⟩
    rw [List.append_nil]
    have lx := Paired.len k1
    have l1 := (ha.len _ _ _ h1).trans hl
    have lr := ha.cnt _ _ _ h1
    -- the new instance and its dict
    have B2 := (B1.lay (o := .own y) ndx)
    have ny2 : (upd H1 dx (.own y)) y = none := by rw [upd_ne (Ne.symm ne)]; exact ny
    have B3 := B2.lay (o := .ins (R.cl c) dx []) ny2
    obtain ⟨nF, nE, _, _⟩ := B2.new ny2
    have B4 : Bag R e F1 (upd (upd H1 dx (.own y)) y (.ins (R.cl c) dx [])) ((ρ1.zip σ ++ tm) ++ ((.obj c [] :: rs.map tmpOf).zip ((V.ref y :: xs).map some))) := by
      have e1 : (Sl.obj c [] :: rs.map tmpOf).zip ((V.ref y :: xs).map some) = (.obj c [], some (.ref y)) :: (rs.map tmpOf).zip (xs.map some) := rfl
      rw [e1]
      have B5 : Bag R e F1 (upd (upd H1 dx (.own y)) y (.ins (R.cl c) dx [])) (ρ1.zip σ ++ tm ++ (rs.map tmpOf).zip (xs.map some) ++ [(.obj c [], some (.ref y))]) := by
        refine B3.of (fun q hq => ?_) ?_ fun q hq a ha => ?_
        · rcases List.mem_append.mp hq with hq | hq
          · exact B3.mem hq
          · obtain rfl := List.mem_singleton.mp hq
            exact ⟨y, dx, [], rfl, nF, by rw [upd_same]; simp, Nat.zero_le _, .nil⟩
        · rw [List.pairwise_append]
          refine ⟨B3.apart, List.pairwise_singleton _ _, fun q hq q' hq' a h1 h2 => ?_⟩
          obtain rfl := List.mem_singleton.mp hq'
          cases h2
          obtain ⟨_, u, z⟩ := (B2.mem hq).own_of h1
          rw [ny2] at z; cases z
        · rcases List.mem_append.mp hq with hq | hq
          · exact B3.mem_ow hq ha
          · obtain rfl := List.mem_singleton.mp hq
            cases ha
            exact nE
      refine B5.perm ?_
      rw [List.append_assoc (ρ1.zip σ ++ tm)]
      exact (List.Perm.refl _).append (List.perm_append_singleton _ _)
    have lf := hf.len _ _ _ (by rw [List.length_cons, List.length_map]; omega) h2
    have ls : rs.length = ss.length := by
      have := lf
      simp only [List.length_cons, List.length_map] at this
      omega
    have q3 : (Sl.obj c [] :: rs.map tmpOf).length = rs.length + 1 := by simp
    refine ⟨by rw [List.length_cons]; omega, F1, .obj c [] :: rs.map tmpOf, .fz .non, .obj c zs :: ss, by omega, ⟨_, B4.sublist (List.sublist_append_right _ _)⟩, h2, fun z H' F' B' => ?_⟩
    have B6 := B4.leave B'
    have ez := (B6.rq_fz (x := z) (p := .non) (i := (ρ1.zip σ ++ tm ++ ((Sl.obj c zs :: ss).zip ((V.ref y :: xs).map some))).length) (by rw [← List.append_assoc]; exact app_last)).non
    refine ⟨ez, ?_⟩
    have B7 : Bag R e F' H' (ρ1.zip σ ++ tm ++ (.obj c zs, some (.ref y)) :: (ss.zip (xs.map some) ++ [])) := by
      rw [List.append_nil]
      have e1 : (Sl.obj c zs :: ss).zip ((V.ref y :: xs).map some) = (.obj c zs, some (.ref y)) :: ss.zip (xs.map some) := rfl
      rw [e1, ← List.append_assoc] at B6
      exact B6.pop
    obtain ⟨F2, s2, B8⟩ := B7.freezeObj (i := (ρ1.zip σ ++ tm).length) (c := c) (xs := zs) app_mid (by rw [lz, hfl])
    rw [List.set_append_right _ _ (Nat.le_refl _), Nat.sub_self] at B8
    have B9 : Bag R e F2 H' (ρ1.zip σ ++ tm ++ (ss.zip (xs.map some) ++ [(.fz (.ins c zs), some (.ref y))])) := by
      refine B8.perm ?_
      refine (List.Perm.refl _).append ?_
      rw [List.set_cons_zero, List.append_nil]
      exact (List.perm_append_singleton _ _).symm
    exact kk (.ref y) H' F2 (Bag.home ls l1 k1 B9) pk_fz
/-- e.f, an attribute of an instance; t: its place for each class that has it -/
def eFld (t : Nat → Option Nat) (fa : PF) : PF := fun ρ => (fa ρ).bind fun x => match x.1 with
  | .fz (.ins c xs) => (t c).bind fun j => (xs[j]?).map fun p => (.fz p, x.2)
  | _ => none
theorem lookup_zip : ∀ {fs : List Str} {vs : List V} {j : Nat} {g : Str} {v : V}, fs.Nodup → fs[j]? = some g → vs[j]? = some v → (fs.zip vs).lookup g = some v
  | [], _, _, _, _, _, h, _ => by simp at h
  | _ :: _, [], _, _, _, _, _, h => by simp at h
  | a :: fs, b :: vs, 0, g, v, nd, h1, h2 => by
    simp at h1 h2
    subst h1 h2
    rw [List.zip_cons_cons, List.lookup_cons]
    simp
  | a :: fs, b :: vs, j + 1, g, v, nd, h1, h2 => by
    rw [List.nodup_cons] at nd
    have hm : g ∈ fs := List.mem_of_getElem? (by simpa using h1)
    have hb : (g == a) = false := by
      rw [beq_eq_false_iff_ne]
      rintro rfl
      exact nd.1 hm
    rw [List.zip_cons_cons, List.lookup_cons, hb]
    exact lookup_zip (j := j) nd.2 (by simpa using h1) (by simpa using h2)
theorem ev_fld (hK : R.K = X.K) {g : Str} {t : Nat → Option Nat} (ht : ∀ c j, t c = some j → (R.fl c)[j]? = some g ∧ (R.fl c).Nodup ∧ Cls R.K (R.cl c) ∧ NoAttr R.K (R.cl c) g) (ha : Ev X R a fa) (hb : attributeBase a g X.env (eval a X.env) = eval a X.env := by rfl) : Ev X R (.Attribute a g pos) (eFld t fa) := by
  have key : ∀ {ρ ρ' : List Sl} {r : Sl}, eFld t fa ρ = some (r, ρ') → ∃ c xs j p, fa ρ = some (.fz (.ins c xs), ρ') ∧ t c = some j ∧ xs[j]? = some p ∧ r = .fz p := by
    intro ρ ρ' r q
    unfold eFld at q
    rw [Option.bind_eq_some_iff] at q
    obtain ⟨⟨r1, ρ1⟩, h1, q⟩ := q
    cases r1 with
    | fz p =>
      cases p with
      | ins c xs =>
        dsimp only at q
        rw [Option.bind_eq_some_iff] at q
        obtain ⟨j, h2, q⟩ := q
        rw [Option.map_eq_some_iff] at q
        obtain ⟨p, h3, q⟩ := q
        cases q
        exact ⟨c, xs, j, p, h1, h2, h3, rfl⟩
      | _ => cases q
    | _ => cases q
  refine ⟨fun ρ r ρ' q => ?_, pe_mono (pe_fld ha.pe hb) fun σ H Q h => ?_⟩
  · obtain ⟨c, xs, j, p, h1, _⟩ := key q
    exact ha.len _ _ _ h1
  · obtain ⟨e, F, ρ, tm, r, ρ', hl, hB, hf', kk⟩ := h
    obtain ⟨c, xs, j, p, h1, h2, h3, rfl⟩ := key hf'
    refine ⟨e, F, ρ, tm, _, ρ', hl, hB, h1, fun x H1 F1 B1 k1 => ?_⟩
    obtain ⟨y, ey, q⟩ := B1.all _ _ _ app_last
    cases ey
    obtain ⟨hg, nd, cl, na⟩ := ht c j h2
    cases q with
    | ins q l r =>
      obtain ⟨v, hv, rv⟩ := r.get' h3
      rw [hK] at cl na
      exact ⟨_, _, _, _, v, rfl, B1.sub _ _ q, cl, na, lookup_zip nd hg hv, kk v H1 F1 (B1.pop.push_fz rv) pk_fz⟩
end
end PL
set_option Elab.async false
set_option linter.all false
set_option maxRecDepth 100000
set_option maxHeartbeats 4000000
/-! PLg: statements. -/
namespace PL
open PySem PySem.Spec PyProof.Rows L2

inductive Fl where
  | nx | rt (v : Vl) | bk | ct
abbrev PSF := List Sl → Option (Fl × List Sl)
/-- what a statement's end gives -/
def SEnd (R : RE) (pr : List Nat) (e : En) (σ : L2.St) (tm : Bg) (D : Ends) (fl : Fl) (ρ' : List Sl) : Prop := ∀ (σ' : L2.St) (H' F' : Hp), σ'.length = σ.length → (∀ i ∈ pr, σ'[i]? = σ[i]?) →
  match fl with
  | .nx => Bag R e F' H' (ρ'.zip σ' ++ tm) → D.nx σ' H'
  | .rt v => ∀ x, Bag R e F' H' (ρ'.zip σ' ++ tm ++ [(v.sl, some x)]) → D.rt x H'
  | .bk => Bag R e F' H' (ρ'.zip σ' ++ tm) → D.bk σ' H'
  | .ct => Bag R e F' H' (ρ'.zip σ' ++ tm) → D.ct σ' H'
def TSv (R : RE) (pr : List Nat) (f : PSF) : TS := fun D σ H => ∃ (e : En) (F : Hp) (ρ : List Sl) (tm : Bg) (fl : Fl) (ρ' : List Sl), ρ.length = σ.length ∧ Bag R e F H (ρ.zip σ ++ tm) ∧ f ρ = some (fl, ρ') ∧ SEnd R pr e σ tm D fl ρ'
structure Sv (X : Cx) (R : RE) (pr : List Nat) (st : Stmt) (f : PSF) : Prop where
  len : ∀ ρ r ρ', f ρ = some (r, ρ') → ρ'.length = ρ.length
  ps : PS X st (TSv R pr f)
structure SSv (X : Cx) (R : RE) (pr : List Nat) (st : List Stmt) (f : PSF) : Prop where
  len : ∀ ρ r ρ', f ρ = some (r, ρ') → ρ'.length = ρ.length
  ps : PSs X st (TSv R pr f)
theorem SEnd.step {R : RE} {pr : List Nat} {e : En} {σ σ1 : L2.St} {tm : Bg} {D : Ends} {fl : Fl} {ρ' : List Sl} (h : SEnd R pr e σ tm D fl ρ') (l : σ1.length = σ.length) (p : ∀ i ∈ pr, σ1[i]? = σ[i]?) : SEnd R pr e σ1 tm D fl ρ' :=
  fun σ' H' F' l' p' => h σ' H' F' (l'.trans l) fun i hi => (p' i hi).trans (p i hi)

def sNil : PSF := fun ρ => some (.nx, ρ)
def sSeq (f g : PSF) : PSF := fun ρ => (f ρ).bind fun x => match x.1 with
  | .nx => g x.2
  | fl => some (fl, x.2)
def sIf (g : PT') (f h : PSF) : PSF := fun ρ => (g ρ).bind fun x => if x.1 = true then f x.2 else h x.2
def sNever : PSF := fun _ => none
def toVl : Sl → Option Vl
  | .fz p => some (.fz p)
  | .own xs => some (.own xs)
  | _ => none
theorem toVl_eq {s : Sl} {v : Vl} (h : toVl s = some v) : s = v.sl := by
  cases s <;> cases h <;> rfl
def sRet (f : PF) : PSF := fun ρ => (f ρ).bind fun x => (toVl x.1).map fun v => (.rt v, x.2)
def sRetN : PSF := fun ρ => some (.rt (.fz .non), ρ)
def sExpr (f : PF) : PSF := fun ρ => (f ρ).map fun x => (.nx, x.2)
def sSet (i : Nat) (f : PF) : PSF := fun ρ => (f ρ).bind fun x => (toVl x.1).map fun v => (.nx, x.2.set i v.sl)

section
variable {X : Cx} {R : RE} {pr : List Nat} {a b c : Expr} {fa fb : PF} {gc : PT'} {st : Stmt} {rest sa sb : List Stmt} {f g : PSF} {pos pos' : Pos}
theorem ssv_nil : SSv X R pr [] sNil := ⟨fun ρ r ρ' h => by cases h; rfl, pss_mono pss_nil fun D σ H h => by
  obtain ⟨e, F, ρ, tm, fl, ρ', hl, hB, hf, k⟩ := h
  cases hf
  exact k σ H F rfl (fun _ _ => rfl) hB⟩
theorem sSeq_some {ρ ρ' : List Sl} {fl : Fl} (h : sSeq f g ρ = some (fl, ρ')) : ∃ fl1 ρ1, f ρ = some (fl1, ρ1) ∧ ((fl1 = .nx ∧ g ρ1 = some (fl, ρ')) ∨ (fl1 ≠ .nx ∧ fl = fl1 ∧ ρ' = ρ1)) := by
  unfold sSeq at h
  rw [Option.bind_eq_some_iff] at h
  obtain ⟨⟨fl1, ρ1⟩, h1, h⟩ := h
  refine ⟨fl1, ρ1, h1, ?_⟩
  cases fl1 with
  | nx => exact .inl ⟨rfl, h⟩
  | rt v => cases h; exact .inr ⟨(fun z => nomatch z), rfl, rfl⟩
  | bk => cases h; exact .inr ⟨(fun z => nomatch z), rfl, rfl⟩
  | ct => cases h; exact .inr ⟨(fun z => nomatch z), rfl, rfl⟩
theorem ssv_cons (h1 : Sv X R pr st f) (h2 : SSv X R pr rest g) : SSv X R pr (st :: rest) (sSeq f g) := by
  refine ⟨fun ρ r ρ' h => ?_, pss_mono (pss_cons h1.ps h2.ps) fun D σ H h => ?_⟩
  · obtain ⟨fl1, ρ1, q1, q⟩ := sSeq_some h
    rcases q with ⟨_, q⟩ | ⟨_, _, rfl⟩
    · exact (h2.len _ _ _ q).trans (h1.len _ _ _ q1)
    · exact h1.len _ _ _ q1
  · obtain ⟨e, F, ρ, tm, fl, ρ', hl, hB, hf, k⟩ := h
    obtain ⟨fl1, ρ1, q1, q⟩ := sSeq_some hf
    have l1 := h1.len _ _ _ q1
    refine ⟨e, F, ρ, tm, fl1, ρ1, hl, hB, q1, ?_⟩
    rcases q with ⟨rfl, q⟩ | ⟨nn, rfl, rfl⟩
    · intro σ1 H1 F1 ls lp hB1
      exact ⟨e, F1, ρ1, tm, fl, ρ', by omega, hB1, q, k.step ls lp⟩
    · cases fl with
      | nx => exact absurd rfl nn
      | rt v => exact k
      | bk => exact k
      | ct => exact k
theorem ssv_one (h1 : Sv X R pr st f) : SSv X R pr [st] f := ⟨h1.len, pss_one h1.ps⟩
theorem sv_if (hc : Tv X R c gc) (h1 : SSv X R pr sa f) (h2 : SSv X R pr sb g) : Sv X R pr (.If c sa sb pos) (sIf gc f g) := by
  refine ⟨fun ρ r ρ' h => ?_, ps_mono (ps_if hc.pt h1.ps h2.ps) fun D σ H h => ?_⟩
  · unfold sIf at h
    rw [Option.bind_eq_some_iff] at h
    obtain ⟨⟨d, ρ1⟩, q1, h⟩ := h
    cases d with
    | true => exact (h1.len _ _ _ h).trans (hc.len _ _ _ q1)
    | false => exact (h2.len _ _ _ h).trans (hc.len _ _ _ q1)
  · obtain ⟨e, F, ρ, tm, fl, ρ', hl, hB, hf, k⟩ := h
    unfold sIf at hf
    rw [Option.bind_eq_some_iff] at hf
    obtain ⟨⟨d, ρ1⟩, q1, hf⟩ := hf
    refine ⟨e, F, ρ, tm, d, ρ1, hl, hB, q1, fun H1 F1 B1 => ?_⟩
    have l1 := hc.len _ _ _ q1
    cases d with
    | true => exact iteT ⟨e, F1, ρ1, tm, fl, ρ', by omega, B1, hf, k⟩
    | false => exact iteF ⟨e, F1, ρ1, tm, fl, ρ', by omega, B1, hf, k⟩
/-- code that is not come to -/
theorem sv_never : Sv X R pr st sNever := ⟨fun ρ r ρ' h => (nomatch h), ps_mono ps_never fun D σ H h => by
  obtain ⟨e, F, ρ, tm, fl, ρ', hl, hB, hf, k⟩ := h
  cases hf⟩
theorem ssv_never : SSv X R pr rest sNever := ⟨fun ρ r ρ' h => (nomatch h), pss_mono pss_never fun D σ H h => by
  obtain ⟨e, F, ρ, tm, fl, ρ', hl, hB, hf, k⟩ := h
  cases hf⟩
def sPass : PSF := sNil
theorem sv_pass : Sv X R pr (.Pass pos) sNil := ⟨fun ρ r ρ' h => by cases h; rfl, ps_mono ps_pass fun D σ H h => by
  obtain ⟨e, F, ρ, tm, fl, ρ', hl, hB, hf, k⟩ := h
  cases hf
  exact k σ H F rfl (fun _ _ => rfl) hB⟩
def sBreak : PSF := fun ρ => some (.bk, ρ)
def sCont : PSF := fun ρ => some (.ct, ρ)
theorem sv_break : Sv X R pr (.Break pos) sBreak := ⟨fun ρ r ρ' h => by cases h; rfl, ps_mono ps_break fun D σ H h => by
  obtain ⟨e, F, ρ, tm, fl, ρ', hl, hB, hf, k⟩ := h
  cases hf
  exact k σ H F rfl (fun _ _ => rfl) hB⟩
theorem sv_cont : Sv X R pr (.Continue pos) sCont := ⟨fun ρ r ρ' h => by cases h; rfl, ps_mono ps_continue fun D σ H h => by
  obtain ⟨e, F, ρ, tm, fl, ρ', hl, hB, hf, k⟩ := h
  cases hf
  exact k σ H F rfl (fun _ _ => rfl) hB⟩
theorem sRet_some {ρ ρ' : List Sl} {fl : Fl} (h : sRet fa ρ = some (fl, ρ')) : ∃ v : Vl, fa ρ = some (v.sl, ρ') ∧ fl = .rt v := by
  unfold sRet at h
  rw [Option.bind_eq_some_iff] at h
  obtain ⟨⟨r, ρ1⟩, q1, h⟩ := h
  rw [Option.map_eq_some_iff] at h
  obtain ⟨v, q2, h⟩ := h
  cases h
  dsimp only at q2
  rw [toVl_eq q2] at q1
  exact ⟨v, q1, rfl⟩
theorem sv_ret (h : Ev X R a fa) : Sv X R pr (.Return (some a) pos) (sRet fa) := by
  refine ⟨fun ρ r ρ' q => ?_, ps_mono (ps_ret h.pe) fun D σ H q => ?_⟩
  · obtain ⟨v, q1, _⟩ := sRet_some q
    exact h.len _ _ _ q1
  · obtain ⟨e, F, ρ, tm, fl, ρ', hl, hB, hf, k⟩ := q
    obtain ⟨v, q1, rfl⟩ := sRet_some hf
    refine ⟨e, F, ρ, tm, v.sl, ρ', hl, hB, q1, fun x H' F' B' _ => ?_⟩
    rw [tmp_sl] at B'
    exact k σ H' F' rfl (fun _ _ => rfl) x B'
theorem sv_retN : Sv X R pr (.Return none pos) sRetN := by
  refine ⟨fun ρ r ρ' q => by cases q; rfl, ps_mono ps_retN fun D σ H q => ?_⟩
  obtain ⟨e, F, ρ, tm, fl, ρ', hl, hB, hf, k⟩ := q
  cases hf
  exact k σ H F rfl (fun _ _ => rfl) .non (hB.push_fz .non)
theorem sv_expr (h : Ev X R a fa) (hs : swapsWith a none pos.line X.env = pure false := by rfl) : Sv X R pr (.Expr a pos) (sExpr fa) := by
  have key : ∀ {ρ ρ' : List Sl} {fl : Fl}, sExpr fa ρ = some (fl, ρ') → ∃ r, fa ρ = some (r, ρ') ∧ fl = .nx := by
    intro ρ ρ' fl q
    unfold sExpr at q
    rw [Option.map_eq_some_iff] at q
    obtain ⟨⟨r, ρ1⟩, q1, q⟩ := q
    cases q
    exact ⟨r, q1, rfl⟩
  refine ⟨fun ρ r ρ' q => ?_, ps_mono (ps_expr h.pe hs) fun D σ H q => ?_⟩
  · obtain ⟨v, q1, _⟩ := key q
    exact h.len _ _ _ q1
  · obtain ⟨e, F, ρ, tm, fl, ρ', hl, hB, hf, k⟩ := q
    obtain ⟨r, q1, rfl⟩ := key hf
    exact ⟨e, F, ρ, tm, r, ρ', hl, hB, q1, fun x H' F' B' _ => k σ H' F' rfl (fun _ _ => rfl) B'.pop⟩
theorem sv_doc {x : Str} {j : Nat} : Sv X R pr (.Expr (.Constant (.str x) j pos) pos') sNil := ⟨fun ρ r ρ' h => by cases h; rfl, ps_mono ps_doc fun D σ H h => by
  obtain ⟨e, F, ρ, tm, fl, ρ', hl, hB, hf, k⟩ := h
  cases hf
  exact k σ H F rfl (fun _ _ => rfl) hB⟩
theorem zip_set2 {ρ : List Sl} {σ : L2.St} {i : Nat} {s : Sl} {o : Option V} (hl : ρ.length = σ.length) : (ρ.set i s).zip (σ.set i o) = (ρ.zip σ).set i (s, o) := by
  by_cases hi : i < σ.length
  · apply List.ext_getElem?
    intro j
    by_cases z : i = j
    · subst z
      rw [List.getElem?_set_self (by rw [List.length_zip]; omega)]
      exact zip_get (List.getElem?_set_self (by omega)) (List.getElem?_set_self hi)
    · rw [List.getElem?_set_ne z]
      cases q : (ρ.zip σ)[j]? with
      | none =>
        rw [List.getElem?_eq_none_iff] at q ⊢
        rw [List.length_zip] at q ⊢
        rw [List.length_set, List.length_set]
        exact q
      | some p =>
        obtain ⟨s', o'⟩ := p
        rw [List.getElem?_zip_eq_some] at q ⊢
        rw [List.getElem?_set_ne z, List.getElem?_set_ne z]
        exact q
  · rw [List.set_eq_of_length_le (by omega), List.set_eq_of_length_le (by omega), List.set_eq_of_length_le (by rw [List.length_zip]; omega)]
/-- what lies behind the slots goes into slot i -/
theorem Bag.slot {e : En} {F H : Hp} {ρ : List Sl} {σ : L2.St} {tm C : Bg} {i : Nat} {s : Sl} {x : Option V} (h : Bag R e F H (ρ.zip σ ++ tm ++ (s, x) :: C)) (hl : ρ.length = σ.length) : Bag R e F H ((ρ.set i s).zip (σ.set i x) ++ tm ++ C) := by
  rw [zip_set2 hl]
  by_cases hi : i < (ρ.zip σ).length
  · have h2 := h.move_mid (i := i) (by rw [List.length_append]; omega)
    rw [List.set_append_left _ _ hi] at h2
    exact h2
  · rw [List.set_eq_of_length_le (by omega)]
    exact h.drop_mid
theorem pr_set {σ : L2.St} {i : Nat} {x : Option V} (h : i ∉ pr) : ∀ j ∈ pr, (σ.set i x)[j]? = σ[j]? := fun j hj => List.getElem?_set_ne fun z => by subst z; exact h hj
theorem sSet_some {i : Nat} {ρ ρ' : List Sl} {fl : Fl} (h : sSet i fa ρ = some (fl, ρ')) : ∃ (v : Vl) (ρ1 : List Sl), fa ρ = some (v.sl, ρ1) ∧ fl = .nx ∧ ρ' = ρ1.set i v.sl := by
  unfold sSet at h
  rw [Option.bind_eq_some_iff] at h
  obtain ⟨⟨r, ρ1⟩, q1, h⟩ := h
  rw [Option.map_eq_some_iff] at h
  obtain ⟨v, q2, h⟩ := h
  cases h
  dsimp only at q2
  rw [toVl_eq q2] at q1
  exact ⟨v, ρ1, q1, rfl, rfl⟩
theorem sSet_len {i : Nat} (l : ∀ ρ r ρ', fa ρ = some (r, ρ') → ρ'.length = ρ.length) : ∀ ρ r ρ', sSet i fa ρ = some (r, ρ') → ρ'.length = ρ.length := fun ρ r ρ' q => by
  obtain ⟨v, ρ1, q1, _, rfl⟩ := sSet_some q
  rw [List.length_set]; exact l _ _ _ q1
/-- the reading of a plain assignment to a name -/
theorem tSet_of {i : Nat} {D : Ends} {σ : L2.St} {H : Hp} (hp : i ∉ pr) (l : ∀ ρ r ρ', fa ρ = some (r, ρ') → ρ'.length = ρ.length) (h : TSv R pr (sSet i fa) D σ H) : tAsg (TEv R fa) (gName i) D σ H := by
  obtain ⟨e, F, ρ, tm, fl, ρ', hl, hB, hf, k⟩ := h
  obtain ⟨v, ρ1, q1, rfl, rfl⟩ := sSet_some hf
  refine ⟨e, F, ρ, tm, v.sl, ρ1, hl, hB, q1, fun x H' F' B' _ => ?_⟩
  rw [tmp_sl] at B'
  have l1 := l _ _ _ q1
  have B2 := Bag.slot (i := i) (C := []) B' (by omega)
  rw [List.append_nil] at B2
  exact k _ H' F' (by rw [List.length_set]) (pr_set hp) B2
theorem sv_set {i : Nat} {x : Str} (hN : X.N.Nodup) (hi : X.N[i]? = some x) (hx : Loc X.env.scope x) (hp : i ∉ pr) (h : Ev X R a fa) (hs : swapsWith a (some (.Name x pos')) pos.line X.env = pure false := by rfl) (hf : X.fn x = true ∨ X.env.scope.names.lookup x = some .local := by first | exact .inl rfl | exact .inr rfl | assumption) :
    Sv X R pr (.Assign [.Name x pos'] a pos) (sSet i fa) := ⟨sSet_len h.len, ps_mono (ps_set hN hi hx h.pe hs hf) fun D σ H q => tSet_of hp h.len q⟩

/-! ### two, three names at once -/
def sPar (i j : Nat) (fs : PFs) : PSF := fun ρ => (fs ρ).bind fun x => match x.1 with
  | [r, s] => (toVl r).bind fun v => (toVl s).map fun w => (.nx, (x.2.set i v.sl).set j w.sl)
  | _ => none
def sPar3 (i j l : Nat) (fs : PFs) : PSF := fun ρ => (fs ρ).bind fun x => match x.1 with
  | [r, s, t] => (toVl r).bind fun v => (toVl s).bind fun w => (toVl t).map fun u => (.nx, ((x.2.set i v.sl).set j w.sl).set l u.sl)
  | _ => none
theorem sPar_some {i j : Nat} {fs : PFs} {ρ ρ' : List Sl} {fl : Fl} (h : sPar i j fs ρ = some (fl, ρ')) : ∃ (v w : Vl) (ρ1 : List Sl), fs ρ = some ([v.sl, w.sl], ρ1) ∧ fl = .nx ∧ ρ' = (ρ1.set i v.sl).set j w.sl := by
  unfold sPar at h
  rw [Option.bind_eq_some_iff] at h
  obtain ⟨⟨rs, ρ1⟩, q1, h⟩ := h
  split at h
  · rename_i r s e1
    rw [Option.bind_eq_some_iff] at h
    obtain ⟨v, q2, h⟩ := h
    rw [Option.map_eq_some_iff] at h
    obtain ⟨w, q3, h⟩ := h
    cases h
    dsimp only at e1
    subst e1
    rw [toVl_eq q2, toVl_eq q3] at q1
    exact ⟨v, w, ρ1, q1, rfl, rfl⟩
  · cases h
theorem sPar3_some {i j l : Nat} {fs : PFs} {ρ ρ' : List Sl} {fl : Fl} (h : sPar3 i j l fs ρ = some (fl, ρ')) : ∃ (v w u : Vl) (ρ1 : List Sl), fs ρ = some ([v.sl, w.sl, u.sl], ρ1) ∧ fl = .nx ∧ ρ' = ((ρ1.set i v.sl).set j w.sl).set l u.sl := by
  unfold sPar3 at h
  rw [Option.bind_eq_some_iff] at h
  obtain ⟨⟨rs, ρ1⟩, q1, h⟩ := h
  split at h
  · rename_i r s t e1
    rw [Option.bind_eq_some_iff] at h
    obtain ⟨v, q2, h⟩ := h
    rw [Option.bind_eq_some_iff] at h
    obtain ⟨w, q3, h⟩ := h
    rw [Option.map_eq_some_iff] at h
    obtain ⟨u, q4, h⟩ := h
    cases h
    dsimp only at e1
    subst e1
    rw [toVl_eq q2, toVl_eq q3, toVl_eq q4] at q1
    exact ⟨v, w, u, ρ1, q1, rfl, rfl⟩
  · cases h
theorem sv_par {i j : Nat} {x y : Str} {fs : PFs} {px py pt : Pos} {kt k2 pt2} (hc : X.calm = true) (hN : X.N.Nodup) (hi : X.N[i]? = some x) (hj : X.N[j]? = some y) (hij : i ≠ j)
    (hx : X.env.scope.names.lookup x = some .local) (hy : X.env.scope.names.lookup y = some .local) (hp : i ∉ pr) (hp' : j ∉ pr) (h : Av X R [a, b] fs)
    (hw : swappedStores [.Tuple [.Name x px, .Name y py] kt pt] (.Tuple [a, b] k2 pt2) X.env = pure (some [x, y]))
    (hs : swapsWithSole [.Tuple [.Name x px, .Name y py] kt pt] (.Tuple [a, b] k2 pt2) pos.line X.env = pure false := by rfl) :
    Sv X R pr (.Assign [.Tuple [.Name x px, .Name y py] kt pt] (.Tuple [a, b] k2 pt2) pos) (sPar i j fs) := by
  refine ⟨fun ρ r ρ' q => ?_, ps_mono (ps_par hc hN hi hj hij hx hy h.pa hw hs) fun D σ H q => ?_⟩
  · obtain ⟨v, w, ρ1, q1, _, rfl⟩ := sPar_some q
    rw [List.length_set, List.length_set]; exact h.len _ _ _ q1
  · obtain ⟨e, F, ρ, tm, fl, ρ', hl, hB, hf, k⟩ := q
    obtain ⟨v, w, ρ1, q1, rfl, rfl⟩ := sPar_some hf
    refine ⟨e, F, ρ, tm, _, ρ1, hl, hB, q1, fun xs H' F' B' k1 => ?_⟩
    have l1 := h.len _ _ _ q1
    have lx := Paired.len k1
    match xs, lx with
    | [x1, x2], _ =>
      refine ⟨x1, x2, rfl, ?_⟩
      have e1 : ([v.sl, w.sl].map tmpOf).zip ([x1, x2].map some) = [(v.sl, some x1), (w.sl, some x2)] := by simp [tmp_sl]
      rw [e1] at B'
      have B2 := Bag.slot (i := i) B' (by omega)
      have B3 := Bag.slot (i := j) B2 (by rw [List.length_set, List.length_set]; omega)
      rw [List.append_nil] at B3
      exact k _ H' F' (by rw [List.length_set, List.length_set]) (fun m hm => by rw [pr_set hp' m hm, pr_set hp m hm]) B3
theorem sv_par3 {i j l : Nat} {x y z : Str} {fs : PFs} {px py pz pt : Pos} {kt k2 pt2} (hc : X.calm = true) (hN : X.N.Nodup) (hi : X.N[i]? = some x) (hj : X.N[j]? = some y) (hl3 : X.N[l]? = some z) (hij : i ≠ j) (hil : i ≠ l) (hjl : j ≠ l)
    (hx : X.env.scope.names.lookup x = some .local) (hy : X.env.scope.names.lookup y = some .local) (hz : X.env.scope.names.lookup z = some .local) (hp : i ∉ pr) (hp' : j ∉ pr) (hp2 : l ∉ pr) (h : Av X R [a, b, c] fs)
    (hw : swappedStores [.Tuple [.Name x px, .Name y py, .Name z pz] kt pt] (.Tuple [a, b, c] k2 pt2) X.env = pure (some [x, y, z]))
    (hs : swapsWithSole [.Tuple [.Name x px, .Name y py, .Name z pz] kt pt] (.Tuple [a, b, c] k2 pt2) pos.line X.env = pure false := by rfl) :
    Sv X R pr (.Assign [.Tuple [.Name x px, .Name y py, .Name z pz] kt pt] (.Tuple [a, b, c] k2 pt2) pos) (sPar3 i j l fs) := by
  refine ⟨fun ρ r ρ' q => ?_, ps_mono (ps_par3 hc hN hi hj hl3 hij hil hjl hx hy hz h.pa hw hs) fun D σ H q => ?_⟩
  · obtain ⟨v, w, u, ρ1, q1, _, rfl⟩ := sPar3_some q
    rw [List.length_set, List.length_set, List.length_set]; exact h.len _ _ _ q1
  · obtain ⟨e, F, ρ, tm, fl, ρ', hl, hB, hf, k⟩ := q
    obtain ⟨v, w, u, ρ1, q1, rfl, rfl⟩ := sPar3_some hf
    refine ⟨e, F, ρ, tm, _, ρ1, hl, hB, q1, fun xs H' F' B' k1 => ?_⟩
    have l1 := h.len _ _ _ q1
    have lx := Paired.len k1
    match xs, lx with
    | [x1, x2, x3], _ =>
      refine ⟨x1, x2, x3, rfl, ?_⟩
      have e1 : ([v.sl, w.sl, u.sl].map tmpOf).zip ([x1, x2, x3].map some) = [(v.sl, some x1), (w.sl, some x2), (u.sl, some x3)] := by simp [tmp_sl]
      rw [e1] at B'
      have B2 := Bag.slot (i := i) B' (by omega)
      have B3 := Bag.slot (i := j) B2 (by rw [List.length_set, List.length_set]; omega)
      have B4 := Bag.slot (i := l) B3 (by simp only [List.length_set]; omega)
      rw [List.append_nil] at B4
      exact k _ H' F' (by simp only [List.length_set]) (fun m hm => by rw [pr_set hp2 m hm, pr_set hp' m hm, pr_set hp m hm]) B4
end
end PL
set_option Elab.async false
set_option linter.all false
set_option maxRecDepth 100000
set_option maxHeartbeats 4000000
/-! PLh: targets, lists that are changed, loops. -/
namespace PL
open PySem PySem.Spec PyProof.Rows L2

/-! ### targets -/
abbrev PGF := PV → List Sl → Option (List Sl)
abbrev PGFs := List PV → List Sl → Option (List Sl)
def gNm (i : Nat) : PGF := fun p ρ => some (ρ.set i (.fz p))
def gsNil : PGFs := fun ps ρ => match ps with
  | [] => some ρ
  | _ => none
def gsCons (g : PGF) (gs : PGFs) : PGFs := fun ps ρ => match ps with
  | p :: r => (g p ρ).bind fun ρ1 => gs r ρ1
  | [] => none
def gTp (gs : PGFs) : PGF := fun p ρ => match p with
  | .tup ps => gs ps ρ
  | _ => none
def TGv (R : RE) (ws : List Nat) (g : PGF) : TG := fun v σ H Q => ∃ (e : En) (F : Hp) (ρ : List Sl) (tm : Bg) (p : PV) (ρ' : List Sl), ρ.length = σ.length ∧ Bag R e F H (ρ.zip σ ++ tm) ∧ Rp R F p v ∧ g p ρ = some ρ' ∧
  ∀ σ', σ'.length = σ.length → (∀ j, j ∉ ws → σ'[j]? = σ[j]?) → Bag R e F H (ρ'.zip σ' ++ tm) → Q σ' H
def TGsv (R : RE) (ws : List Nat) (g : PGFs) : TGs := fun vs σ H Q => ∃ (e : En) (F : Hp) (ρ : List Sl) (tm : Bg) (ps : List PV) (ρ' : List Sl), ρ.length = σ.length ∧ Bag R e F H (ρ.zip σ ++ tm) ∧ RpL R F ps vs ∧ g ps ρ = some ρ' ∧
  ∀ σ', σ'.length = σ.length → (∀ j, j ∉ ws → σ'[j]? = σ[j]?) → Bag R e F H (ρ'.zip σ' ++ tm) → Q σ' H
structure Gv (X : Cx) (R : RE) (t : Expr) (ws : List Nat) (g : PGF) : Prop where
  len : ∀ p ρ ρ', g p ρ = some ρ' → ρ'.length = ρ.length
  pg : PG X t (TGv R ws g)
structure Gsv (X : Cx) (R : RE) (t : List Expr) (ws : List Nat) (g : PGFs) : Prop where
  len : ∀ p ρ ρ', g p ρ = some ρ' → ρ'.length = ρ.length
  pgs : PGs X t (TGsv R ws g)
section
variable {X : Cx} {R : RE} {pos : Pos}
theorem pg_mono {t : Expr} {g g' : TG} (h : PG X t g) (m : ∀ v σ H Q, g' v σ H Q → g v σ H Q) : PG X t g' := ⟨fun pins s σ H v u Q I r q => h.run pins s σ H v u Q I r (m v σ H Q q)⟩
theorem pgs_mono {t : List Expr} {g g' : TGs} (h : PGs X t g) (m : ∀ v σ H Q, g' v σ H Q → g v σ H Q) : PGs X t g' := ⟨fun pins s σ H v u Q I r q => h.run pins s σ H v u Q I r (m v σ H Q q)⟩
theorem gv_name {i : Nat} {x : Str} (hN : X.N.Nodup) (hi : X.N[i]? = some x) (hx : Loc X.env.scope x) (hf : X.fn x = true ∨ X.env.scope.names.lookup x = some .local := by first | exact .inl rfl | exact .inr rfl | assumption) : Gv X R (.Name x pos) [i] (gNm i) := by
  refine ⟨fun p ρ ρ' h => by cases h; rw [List.length_set], pg_mono (pg_name hN hi hx hf) fun v σ H Q h => ?_⟩
  obtain ⟨e, F, ρ, tm, p, ρ', hl, hB, hr, hg, k⟩ := h
  cases hg
  have B2 : Bag R e F H (ρ.zip σ ++ tm ++ (.fz p, some v) :: []) := hB.push_fz hr
  have B3 := Bag.slot (i := i) B2 hl
  rw [List.append_nil] at B3
  exact k _ (by rw [List.length_set]) (fun j hj => List.getElem?_set_ne fun z => hj (by rw [z]; exact List.mem_singleton.mpr rfl)) B3
theorem gsv_nil : Gsv X R [] [] gsNil := by
  refine ⟨fun p ρ ρ' h => ?_, pgs_mono pgs_nil fun v σ H Q h => ?_⟩
  · unfold gsNil at h
    split at h
    · cases h; rfl
    · cases h
  · obtain ⟨e, F, ρ, tm, p, ρ', hl, hB, hr, hg, k⟩ := h
    unfold gsNil at hg
    split at hg
    · cases hg
      cases hr
      exact ⟨rfl, k σ rfl (fun _ _ => rfl) hB⟩
    · cases hg
theorem gsv_cons {t : Expr} {ts : List Expr} {ws vs : List Nat} {g : PGF} {gs : PGFs} (h1 : Gv X R t ws g) (h2 : Gsv X R ts vs gs) (hs : (assignEach (t :: ts) X.env).map (·.2) = assign t X.env :: (assignEach ts X.env).map (·.2) := by rfl) : Gsv X R (t :: ts) (ws ++ vs) (gsCons g gs) := by
  have key : ∀ {ps : List PV} {ρ ρ' : List Sl}, gsCons g gs ps ρ = some ρ' → ∃ p r ρ1, ps = p :: r ∧ g p ρ = some ρ1 ∧ gs r ρ1 = some ρ' := by
    intro ps ρ ρ' h
    unfold gsCons at h
    split at h
    · rename_i p r
      rw [Option.bind_eq_some_iff] at h
      obtain ⟨ρ1, q1, q2⟩ := h
      exact ⟨p, r, ρ1, rfl, q1, q2⟩
    · cases h
  refine ⟨fun p ρ ρ' h => ?_, pgs_mono (pgs_cons h1.pg h2.pgs hs) fun v σ H Q h => ?_⟩
  · obtain ⟨p, r, ρ1, _, q1, q2⟩ := key h
    exact (h2.len _ _ _ q2).trans (h1.len _ _ _ q1)
  · obtain ⟨e, F, ρ, tm, ps, ρ', hl, hB, hr, hg, k⟩ := h
    obtain ⟨p, r, ρ1, rfl, q1, q2⟩ := key hg
    cases hr with
    | @cons _ _ v1 vr r1 r2 =>
      refine ⟨v1, vr, rfl, e, F, ρ, tm, p, ρ1, hl, hB, r1, q1, fun σ1 l1 k1 B1 => ?_⟩
      refine ⟨e, F, ρ1, tm, r, ρ', by have := h1.len _ _ _ q1; omega, B1, r2, q2, fun σ2 l2 k2 B2 => k σ2 (l2.trans l1) (fun j hj => ?_) B2⟩
      rw [List.mem_append, not_or] at hj
      rw [k2 j hj.2, k1 j hj.1]
theorem gv_tup {es : List Expr} {ws : List Nat} {gs : PGFs} {k n : Nat} (hK : R.K = X.K) (hc : X.calm = true) (h : Gsv X R es ws gs) (ln : ∀ ps ρ ρ', gs ps ρ = some ρ' → ps.length = n) (hn : (assignEach es X.env).length = n := by rfl) (hst : (assignEach es X.env).findIdx? (·.1) = none := by rfl) :
    Gv X R (.Tuple es k pos) ws (gTp gs) := by
  refine ⟨fun p ρ ρ' q => ?_, pg_mono (pg_tup hc h.pgs hn hst) fun v σ H Q q => ?_⟩
  · unfold gTp at q
    split at q
    · exact h.len _ _ _ q
    · cases q
  · obtain ⟨e, F, ρ, tm, p, ρ', hl, hB, hr, hg, k⟩ := q
    unfold gTp at hg
    split at hg
    · rename_i ps
      cases hr with
      | tup q r =>
        have l := ln _ _ _ hg
        rw [hK] at q
        exact ⟨_, _, rfl, (hB.sub.sqT q.sq), by rw [← r.length]; exact l, e, F, ρ, tm, ps, ρ', hl, hB, r, hg, k⟩
    · cases hg
theorem gs_len0 : ∀ ps ρ ρ', gsNil ps ρ = some ρ' → ps.length = 0 := fun ps ρ ρ' h => by
  unfold gsNil at h
  split at h
  · rfl
  · cases h
theorem gs_lenS {g : PGF} {gs : PGFs} {n : Nat} (h : ∀ ps ρ ρ', gs ps ρ = some ρ' → ps.length = n) : ∀ ps ρ ρ', gsCons g gs ps ρ = some ρ' → ps.length = n + 1 := fun ps ρ ρ' q => by
  unfold gsCons at q
  split at q
  · rw [Option.bind_eq_some_iff] at q
    obtain ⟨ρ1, _, q2⟩ := q
    rw [List.length_cons, h _ _ _ q2]
  · cases q
end
/-- target = value, the value staying as it is -/
def sAsg (f : PF) (g : PGF) : PSF := fun ρ => (f ρ).bind fun x => (valOf x.1).bind fun p => (g p x.2).map fun ρ' => (.nx, ρ')
section
variable {X : Cx} {R : RE} {pr : List Nat} {a t : Expr} {fa : PF} {g : PGF} {ws : List Nat} {pos : Pos}
theorem sAsg_some {ρ ρ' : List Sl} {fl : Fl} (q : sAsg fa g ρ = some (fl, ρ')) : ∃ r ρ1 p, fa ρ = some (r, ρ1) ∧ valOf r = some p ∧ g p ρ1 = some ρ' ∧ fl = .nx := by
  unfold sAsg at q
  rw [Option.bind_eq_some_iff] at q
  obtain ⟨⟨r, ρ1⟩, h1, q⟩ := q
  rw [Option.bind_eq_some_iff] at q
  obtain ⟨p, h2, q⟩ := q
  rw [Option.map_eq_some_iff] at q
  obtain ⟨ρ2, h3, q⟩ := q
  cases q
  exact ⟨r, ρ1, p, h1, h2, h3, rfl⟩
/-- one temporary, frozen -/
theorem Bag.val {e : En} {F H : Hp} {B : Bg} {r : Sl} {x : V} {p : PV} (h : Bag R e F H (B ++ [(tmpOf r, some x)])) (v : valOf r = some p) : ∃ F', Sub F F' ∧ Bag R e F' H B ∧ Rp R F' p x := by
  have h2 : Bag R e F H (B ++ [r].zip ([x].map some)) := by rw [valOf_tmp v] at h; exact h
  obtain ⟨F', s, h3, q⟩ := h2.vals rfl (ps := [p]) (by unfold valsOf; rw [v]; rfl)
  cases q with
  | cons q _ => exact ⟨F', s, h3, q⟩
theorem sv_asg (h : Ev X R a fa) (hg : Gv X R t ws g) (hp : ∀ i ∈ pr, i ∉ ws) (hs : swapsWithSole [t] a pos.line X.env = pure false := by rfl) (hw : swappedStores [t] a X.env = pure none := by rfl)
    (h1 : (assignEach [t] X.env).map (·.2) = [assign t X.env] := by rfl) : Sv X R pr (.Assign [t] a pos) (sAsg fa g) := by
  refine ⟨fun ρ r ρ' q => ?_, ps_mono (ps_asg h.pe hg.pg hs hw h1) fun D σ H q => ?_⟩
  · obtain ⟨r, ρ1, p, q1, q2, q3, _⟩ := sAsg_some q
    exact (hg.len _ _ _ q3).trans (h.len _ _ _ q1)
  · obtain ⟨e, F, ρ, tm, fl, ρ', hl, hB, hf, k⟩ := q
    obtain ⟨r, ρ1, p, q1, q2, q3, rfl⟩ := sAsg_some hf
    have l1 := h.len _ _ _ q1
    refine ⟨e, F, ρ, tm, r, ρ1, hl, hB, q1, fun x H1 F1 B1 _ => ?_⟩
    obtain ⟨F2, s2, B2, rp⟩ := B1.val q2
    exact ⟨e, F2, ρ1, tm, p, ρ', by omega, B2, rp, q3, fun σ' l' k' B' => k σ' H1 F2 l' (fun i hi => k' i (hp i hi)) B'⟩
end

/-! ### lists of one's own, changed -/
/-- xs.append(e), xs in slot i -/
def eAppend (i : Nat) (f : PF) : PF := fun ρ => match ρ[i]? with
  | some (.own _) => (f ρ).bind fun x => (valOf x.1).bind fun p => match x.2[i]? with
    | some (.own xs) => if xs.length < lineN then some (.fz .non, x.2.set i (.own (xs ++ [p]))) else none
    | _ => none
  | _ => none
def eExtend (i : Nat) (f : PF) : PF := fun ρ => match ρ[i]? with
  | some (.own _) => (f ρ).bind fun x => (cont x.2 x.1).bind fun p => match p, x.2[i]? with
    | .lst ys, some (.own xs) => if xs.length + ys.length ≤ lineN then some (.fz .non, x.2.set i (.own (xs ++ ys))) else none
    | _, _ => none
  | _ => none
def ePop (i : Nat) : PF := fun ρ => match ρ[i]? with
  | some (.own xs) => (xs[xs.length - 1]?).map fun p => (.fz p, ρ.set i (.own xs.dropLast))
  | _ => none
section
variable {X : Cx} {R : RE} {pr : List Nat} {a : Expr} {fa : PF} {pos apos : Pos}
theorem slot_own {e : En} {F H : Hp} {ρ : List Sl} {σ : L2.St} {tm : Bg} (h : Bag R e F H (ρ.zip σ ++ tm)) (hl : ρ.length = σ.length) {i : Nat} {xs : List PV} (g : ρ[i]? = some (.own xs)) : ∃ a vs, σ[i]? = some (some (.ref a)) ∧ (ρ.zip σ ++ tm)[i]? = some (.own xs, some (.ref a)) ∧ F a = none ∧ H a = some (.lst vs) ∧ RpL R F xs vs := by
  obtain ⟨o, h2, h3, a, vs, rfl, h4, h5, h6⟩ := slot_some h hl g
  exact ⟨a, vs, h2, h3, h4, h5, h6⟩
/-- slot i written -/
theorem Bag.wslot {e : En} {F H : Hp} {ρ : List Sl} {σ : L2.St} {tm : Bg} (h : Bag R e F H (ρ.zip σ ++ tm)) (hl : ρ.length = σ.length) {i : Nat} {xs ys : List PV} {a : Addr} {us : List V} (g : ρ[i]? = some (.own xs)) (hs : σ[i]? = some (some (.ref a))) (hF : F a = none) (r : RpL R F ys us) :
    Bag R e F (upd H a (.lst us)) ((ρ.set i (.own ys)).zip σ ++ tm) := by
  have hi := (List.getElem?_eq_some_iff.mp g).1
  have h3 : (ρ.zip σ ++ tm)[i]? = some (.own xs, some (.ref a)) := app_get' (zip_get g hs)
  have h4 := h.write (t := .own ys) (o := .lst us) h3 rfl rfl ⟨a, us, rfl, hF, upd_same, r⟩
  rw [List.set_append_left _ _ (zip_lt hi hl), ← zip_set hs] at h4
  exact h4
theorem ev_append {i : Nat} {x : Str} {npos : Pos} (hN : X.N[i]? = some x) (hv : Vis X.env.scope x) (h : Ev X R a fa) (hd : (x == ("__debug__" : Str)) = false := by decide) (hcd : (x == ("__classdict__" : Str)) = false := by decide)
    (hbase : attributeBase (.Name x npos) "append" X.env (eval (.Name x npos) X.env) = eval (.Name x npos) X.env := by rfl)
    (hfew : ((backTo pos (starEach [a] X.env)).all (fun x => !x.1) && (backToKw pos (keywordEach [] X.env)).all (fun x => x.1.isSome)
      && decide (([a] : List Expr).length + ([] : List Keyword).length + (if ([] : List Keyword).isEmpty then 0 else 1) < 30)) = true := by rfl)
    (hline : (apos.endLine == pos.line) = true := by rfl) (hs : starEach [a] X.env = (false, eval a X.env) :: starEach [] X.env := by rfl) (hplain : (backTo pos (starEach [] X.env)).any (·.1) = false := by rfl) :
    Ev X R (.Call (.Attribute (.Name x npos) "append" apos) [a] [] pos) (eAppend i fa) := by
  have key : ∀ {ρ ρ' : List Sl} {r : Sl}, eAppend i fa ρ = some (r, ρ') → ∃ xs0 r1 ρ1 p xs, ρ[i]? = some (.own xs0) ∧ fa ρ = some (r1, ρ1) ∧ valOf r1 = some p ∧ ρ1[i]? = some (.own xs) ∧ xs.length < lineN ∧ r = .fz .non ∧ ρ' = ρ1.set i (.own (xs ++ [p])) := by
    intro ρ ρ' r q
    unfold eAppend at q
    split at q
    · rename_i xs0 g0
      rw [Option.bind_eq_some_iff] at q
      obtain ⟨⟨r1, ρ1⟩, h1, q⟩ := q
      rw [Option.bind_eq_some_iff] at q
      obtain ⟨p, h2, q⟩ := q
      split at q
      · rename_i xs g1
        split at q
        · cases q
          exact ⟨xs0, r1, ρ1, p, xs, g0, h1, h2, g1, by assumption, rfl, rfl⟩
        · cases q
      · cases q
    · cases q
  refine ⟨fun ρ r ρ' q => ?_, pe_mono (pe_bm PySem.F.plainAttrs_list PySem.F.slot_list_append PySem.F.type_list_append mt_append (pe_var hN hv hd hcd) (pa_cons h.pe pa_nil hs) hbase hfew hline hs hplain) fun σ H Q q => ?_⟩
  · obtain ⟨xs0, r1, ρ1, p, xs, _, h1, _, _, _, _, rfl⟩ := key q
    rw [List.length_set]; exact h.len _ _ _ h1
  · obtain ⟨e, F, ρ, tm, r, ρ', hl, hB, hf, k⟩ := q
    obtain ⟨xs0, r1, ρ1, p, xs, g0, h1, h2, g1, hz, rfl, rfl⟩ := key hf
    obtain ⟨b, vs0, s0, _, _, hb0, _⟩ := slot_own hB hl g0
    refine ⟨.ref b, s0, .inl ⟨rfl, _, SqL.of hb0⟩, e, F, ρ, tm, r1, ρ1, hl, hB, h1, fun y H1 F1 B1 _ => ?_⟩
    obtain ⟨F2, s2, B2, rp⟩ := B1.val h2
    have l1 := h.len _ _ _ h1
    obtain ⟨b', vs, s1, _, hF, hH, hr⟩ := slot_own B2 (by omega) g1
    have eb : b' = b := by rw [s0] at s1; cases s1; rfl
    subst eb
    refine ⟨b', vs, y, rfl, rfl, hH, by rw [← hr.length, ← lineN_eq]; exact hz, ?_⟩
    have B3 := B2.wslot (by omega) g1 s1 hF (hr.append (.one rp))
    exact k _ _ F2 (B3.push_fz .non) pk_fz
theorem ev_extend {i : Nat} {x : Str} {npos : Pos} (hN : X.N[i]? = some x) (hv : Vis X.env.scope x) (h : Ev X R a fa) (hd : (x == ("__debug__" : Str)) = false := by decide) (hcd : (x == ("__classdict__" : Str)) = false := by decide)
    (hbase : attributeBase (.Name x npos) "extend" X.env (eval (.Name x npos) X.env) = eval (.Name x npos) X.env := by rfl)
    (hfew : ((backTo pos (starEach [a] X.env)).all (fun x => !x.1) && (backToKw pos (keywordEach [] X.env)).all (fun x => x.1.isSome)
      && decide (([a] : List Expr).length + ([] : List Keyword).length + (if ([] : List Keyword).isEmpty then 0 else 1) < 30)) = true := by rfl)
    (hline : (apos.endLine == pos.line) = true := by rfl) (hs : starEach [a] X.env = (false, eval a X.env) :: starEach [] X.env := by rfl) (hplain : (backTo pos (starEach [] X.env)).any (·.1) = false := by rfl) :
    Ev X R (.Call (.Attribute (.Name x npos) "extend" apos) [a] [] pos) (eExtend i fa) := by
  have key : ∀ {ρ ρ' : List Sl} {r : Sl}, eExtend i fa ρ = some (r, ρ') → ∃ xs0 r1 ρ1 ys xs, ρ[i]? = some (.own xs0) ∧ fa ρ = some (r1, ρ1) ∧ cont ρ1 r1 = some (.lst ys) ∧ ρ1[i]? = some (.own xs) ∧ xs.length + ys.length ≤ lineN ∧ r = .fz .non ∧ ρ' = ρ1.set i (.own (xs ++ ys)) := by
    intro ρ ρ' r q
    unfold eExtend at q
    split at q
    · rename_i xs0 g0
      rw [Option.bind_eq_some_iff] at q
      obtain ⟨⟨r1, ρ1⟩, h1, q⟩ := q
      rw [Option.bind_eq_some_iff] at q
      obtain ⟨p, h2, q⟩ := q
      split at q
      · rename_i ys xs g1
        split at q
        · cases q
          exact ⟨xs0, r1, ρ1, ys, xs, g0, h1, h2, g1, by assumption, rfl, rfl⟩
        · cases q
      · cases q
    · cases q
  refine ⟨fun ρ r ρ' q => ?_, pe_mono (pe_bm PySem.F.plainAttrs_list PySem.F.slot_list_extend PySem.F.type_list_extend mt_extend (pe_var hN hv hd hcd) (pa_cons h.pe pa_nil hs) hbase hfew hline hs hplain) fun σ H Q q => ?_⟩
  · obtain ⟨xs0, r1, ρ1, p, xs, _, h1, _, _, _, _, rfl⟩ := key q
    rw [List.length_set]; exact h.len _ _ _ h1
  · obtain ⟨e, F, ρ, tm, r, ρ', hl, hB, hf, k⟩ := q
    obtain ⟨xs0, r1, ρ1, ys, xs, g0, h1, h2, g1, hz, rfl, rfl⟩ := key hf
    obtain ⟨b, vs0, s0, _, _, hb0, _⟩ := slot_own hB hl g0
    refine ⟨.ref b, s0, .inl ⟨rfl, _, SqL.of hb0⟩, e, F, ρ, tm, r1, ρ1, hl, hB, h1, fun y H1 F1 B1 k1 => ?_⟩
    have q1 : Rq R F1 H1 (.lst ys) y := by
      have g1 : (ρ1.zip σ ++ tm ++ [(tmpOf r1, some y)])[(ρ1.zip σ ++ tm).length]? = some (tmpOf r1, some y) := app_last
      have B1' := B1
      rw [List.append_assoc] at B1' g1
      exact B1'.rq g1 k1 h2
    have B2 := B1.pop
    have l1 := h.len _ _ _ h1
    obtain ⟨c, us, rfl, hc, rc⟩ := q1.lst B2.sub
    obtain ⟨b', vs, s1, _, hF, hH, hr⟩ := slot_own B2 (by omega) g1
    have eb : b' = b := by rw [s0] at s1; cases s1; rfl
    subst eb
    refine ⟨b', c, vs, us, rfl, rfl, hH, hc, by rw [← hr.length, ← rc.length, ← lineN_eq]; exact hz, ?_⟩
    have B3 := B2.wslot (by omega) g1 s1 hF (hr.append rc)
    exact k _ _ F1 (B3.push_fz .non) pk_fz
theorem RpL.dropLast {F : Hp} {ps : List PV} {vs : List V} (h : RpL R F ps vs) : RpL R F ps.dropLast vs.dropLast := by
  rw [List.dropLast_eq_take, List.dropLast_eq_take, h.length]; exact h.take _
theorem ev_pop {i : Nat} {x : Str} {npos : Pos} (hN : X.N[i]? = some x) (hv : Vis X.env.scope x) (hd : (x == ("__debug__" : Str)) = false := by decide) (hcd : (x == ("__classdict__" : Str)) = false := by decide)
    (hbase : attributeBase (.Name x npos) "pop" X.env (eval (.Name x npos) X.env) = eval (.Name x npos) X.env := by rfl) (hline : (apos.endLine == pos.line) = true := by rfl) :
    Ev X R (.Call (.Attribute (.Name x npos) "pop" apos) [] [] pos) (ePop i) := by
  have key : ∀ {ρ ρ' : List Sl} {r : Sl}, ePop i ρ = some (r, ρ') → ∃ xs p, ρ[i]? = some (.own xs) ∧ xs[xs.length - 1]? = some p ∧ r = .fz p ∧ ρ' = ρ.set i (.own xs.dropLast) := by
    intro ρ ρ' r q
    unfold ePop at q
    split at q
    · rename_i xs g0
      rw [Option.map_eq_some_iff] at q
      obtain ⟨p, h1, q⟩ := q
      cases q
      exact ⟨xs, p, g0, h1, rfl, rfl⟩
    · cases q
  refine ⟨fun ρ r ρ' q => ?_, pe_mono (pe_bm0 PySem.F.plainAttrs_list PySem.F.slot_list_pop PySem.F.type_list_pop mt_pop (pe_var hN hv hd hcd) hbase hline) fun σ H Q q => ?_⟩
  · obtain ⟨xs, p, _, _, _, rfl⟩ := key q
    rw [List.length_set]
  · obtain ⟨e, F, ρ, tm, r, ρ', hl, hB, hf, k⟩ := q
    obtain ⟨xs, p, g0, h1, rfl, rfl⟩ := key hf
    obtain ⟨b, vs, s0, _, hF, hb, hr⟩ := slot_own hB hl g0
    obtain ⟨v, hv, rv⟩ := hr.get' h1
    refine ⟨.ref b, s0, .inl ⟨rfl, _, SqL.of hb⟩, b, vs, v, rfl, rfl, hb, by rw [← hr.length]; exact hv, ?_⟩
    have B3 := hB.wslot hl g0 s0 hF hr.dropLast
    exact k _ _ F (B3.push_fz rv) pk_fz
/-- xs[i] = e, xs in slot k -/
def sSetIx (i : Nat) (fa fi : PF) : PSF := fun ρ => (fa ρ).bind fun x => (valOf x.1).bind fun p => match x.2[i]? with
  | some (.own _) => (fi x.2).bind fun y => match y.1, y.2[i]? with
    | .fz (.int j), some (.own xs) => (ixN xs.length j).map fun m => (.nx, y.2.set i (.own (xs.set m p)))
    | _, _ => none
  | _ => none
theorem sv_setIx {i : Nat} {x : Str} {npos spos : Pos} {b : Expr} {fb : PF} (hN : X.N[i]? = some x) (hv : Vis X.env.scope x) (h : Ev X R a fa) (hi : Ev X R b fb) (hd : (x == ("__debug__" : Str)) = false := by decide) (hcd : (x == ("__classdict__" : Str)) = false := by decide)
    (ha : ∀ v, assign (.Subscript (.Name x npos) b spos) X.env v = (do
      let ov ← holding [v] (eval (.Name x npos) X.env)
      let iv ← holding [v, ov] (eval b X.env)
      standAt spos
      holding [v, ov, iv] (setItem ov iv v)
      release [v, ov, iv] []) := by intro _; rfl)
    (hs : swapsWithSole [.Subscript (.Name x npos) b spos] a pos.line X.env = pure false := by rfl) (hw : swappedStores [.Subscript (.Name x npos) b spos] a X.env = pure none := by rfl)
    (h1 : (assignEach [.Subscript (.Name x npos) b spos] X.env).map (·.2) = [assign (.Subscript (.Name x npos) b spos) X.env] := by rfl) : Sv X R pr (.Assign [.Subscript (.Name x npos) b spos] a pos) (sSetIx i fa fb) := by
  have key : ∀ {ρ ρ' : List Sl} {fl : Fl}, sSetIx i fa fb ρ = some (fl, ρ') → ∃ r1 ρ1 p ρ2 j xs m xs0, fa ρ = some (r1, ρ1) ∧ valOf r1 = some p ∧ ρ1[i]? = some (.own xs0) ∧ fb ρ1 = some (.fz (.int j), ρ2) ∧ ρ2[i]? = some (.own xs) ∧ ixN xs.length j = some m ∧ fl = .nx ∧ ρ' = ρ2.set i (.own (xs.set m p)) := by
    intro ρ ρ' r q
    unfold sSetIx at q
    rw [Option.bind_eq_some_iff] at q
    obtain ⟨⟨r1, ρ1⟩, h1, q⟩ := q
    rw [Option.bind_eq_some_iff] at q
    obtain ⟨p, h2, q⟩ := q
    split at q
    · rename_i xs0 g0
      rw [Option.bind_eq_some_iff] at q
      obtain ⟨⟨r2, ρ2⟩, h3, q⟩ := q
      split at q
      · rename_i j xs e1 e2
        rw [Option.map_eq_some_iff] at q
        obtain ⟨m, h4, q⟩ := q
        cases q
        dsimp only at e1
        subst e1
        exact ⟨r1, ρ1, p, ρ2, j, xs, m, xs0, h1, h2, g0, h3, e2, h4, rfl, rfl⟩
      · cases q
    · cases q
  refine ⟨fun ρ r ρ' q => ?_, ps_mono (ps_asg h.pe (pg_sub (pe_var hN hv hd hcd) hi.pe set_list ha) hs hw h1) fun D σ H q => ?_⟩
  · obtain ⟨r1, ρ1, p, ρ2, j, xs, m, xs0, h1, h2, _, h3, _, _, _, rfl⟩ := key q
    rw [List.length_set]; exact (hi.len _ _ _ h3).trans (h.len _ _ _ h1)
  · obtain ⟨e, F, ρ, tm, fl, ρ', hl, hB, hf, k⟩ := q
    obtain ⟨r1, ρ1, p, ρ2, j, xs, m, xs0, h1, h2, g0, h3, h4, h5, rfl, rfl⟩ := key hf
    have l1 := h.len _ _ _ h1
    have l2 := hi.len _ _ _ h3
    refine ⟨e, F, ρ, tm, r1, ρ1, hl, hB, h1, fun y H1 F1 B1 _ => ?_⟩
    obtain ⟨F2, s2, B2, rp⟩ := B1.val h2
    have B2' := B2.push_fz rp
    rw [List.append_assoc] at B2'
    obtain ⟨a0, vs0, hv', _⟩ := slot_own B2 (by omega) g0
    refine ⟨.ref a0, hv', e, F2, ρ1, _, _, ρ2, by omega, B2', h3, fun z H3 F3 B3 _ => ?_⟩
    have ez := (B3.rq_fz (x := z) (p := .int j) app_last).int
    have B4 := B3.pop
    obtain ⟨b', vs, s1, _, hF, hH, hr⟩ := slot_own B4 (by omega) h4
    rw [hv'] at s1
    cases s1
    refine ⟨a0, vs, j, m, rfl, ez, hH, by rw [← hr.length]; exact h5, ?_⟩
    obtain ⟨y2, ey, rp3⟩ := B4.all (ρ2.zip σ ++ tm).length _ _ (by rw [← List.append_assoc]; exact app_last)
    cases ey
    have B5 := B4.wslot (by omega) h4 hv' hF (hr.set (i := m) rp3)
    rw [← List.append_assoc] at B5
    exact k σ _ F3 rfl (fun _ _ => rfl) B5.pop
end
end PL
set_option Elab.async false
set_option linter.all false
set_option maxRecDepth 100000
set_option maxHeartbeats 4000000
/-! PLi: for, while, comprehensions. -/
namespace PL
open PySem PySem.Spec PyProof.Rows L2

/-- what is walked: its items, what is held meanwhile -/
abbrev PIF := List Sl → Option (List PV × List Sl × List Sl)
/-- the walk J gives these items while the held things are there -/
def WkOk (R : RE) (J : It) (items : List PV) (tI : Bg) : Prop := ∀ (e : En) (F H : Hp) (B : Bg) (i : Nat), Bag R e F H (B ++ tI) →
  (i < items.length → J.go i H ∧ ∀ x H', J.yld i H x H' → ∃ p F2, items[i]? = some p ∧ Bag R e F2 H' (B ++ tI) ∧ Rp R F2 p x) ∧ (i = items.length → J.stop i H)
def TIv (R : RE) (w : PIF) : TI := fun σ H Rr => ∃ (e : En) (F : Hp) (ρ : List Sl) (tm : Bg) (items : List PV) (rs : List Sl) (ρ' : List Sl), ρ.length = σ.length ∧ Bag R e F H (ρ.zip σ ++ tm) ∧ w ρ = some (items, rs, ρ') ∧
  ∀ J H' F' xs, Bag R e F' H' (ρ'.zip σ ++ tm ++ (rs.map tmpOf).zip (xs.map some)) → Paired (fun r x => PkOk r σ x) rs xs → WkOk R J items ((rs.map tmpOf).zip (xs.map some)) → items.length ≤ sizeLine → Rr J H'
structure Iv (X : Cx) (R : RE) (tg iter : Expr) (w : PIF) : Prop where
  len : ∀ ρ a b ρ', w ρ = some (a, b, ρ') → ρ'.length = ρ.length
  pi : PI X tg iter (TIv R w)

/-! ### for -/
def forP (g : PGF) (body : PSF) : List PV → PSF
  | [], ρ => some (.nx, ρ)
  | p :: ps, ρ => (g p ρ).bind fun ρ1 => (body ρ1).bind fun x => match x.1 with
    | .nx => forP g body ps x.2
    | .ct => forP g body ps x.2
    | .bk => some (.nx, x.2)
    | .rt v => some (.rt v, x.2)
def sFor (w : PIF) (g : PGF) (body : PSF) : PSF := fun ρ => (w ρ).bind fun x => forP g body x.1 x.2.2
section
variable {X : Cx} {R : RE} {pr ws : List Nat} {tg iter : Expr} {w : PIF} {g : PGF} {f : PSF} {body : List Stmt} {pos : Pos}
theorem forP_len (lg : ∀ p ρ ρ', g p ρ = some ρ' → ρ'.length = ρ.length) (lf : ∀ ρ r ρ', f ρ = some (r, ρ') → ρ'.length = ρ.length) : ∀ (items : List PV) (ρ : List Sl) (fl : Fl) (ρ' : List Sl), forP g f items ρ = some (fl, ρ') → ρ'.length = ρ.length
  | [], ρ, fl, ρ', h => by cases h; rfl
  | p :: ps, ρ, fl, ρ', h => by
    unfold forP at h
    rw [Option.bind_eq_some_iff] at h
    obtain ⟨ρ1, h1, h⟩ := h
    rw [Option.bind_eq_some_iff] at h
    obtain ⟨⟨fb, ρ2⟩, h2, h⟩ := h
    have l := (lf _ _ _ h2).trans (lg _ _ _ h1)
    cases fb with
    | nx => exact (forP_len lg lf ps _ _ _ h).trans l
    | ct => exact (forP_len lg lf ps _ _ _ h).trans l
    | bk => cases h; exact l
    | rt v => cases h; exact l
theorem sub_tm {B tm tI C : Bg} : (B ++ tm ++ C).Sublist (B ++ (tm ++ tI) ++ C) := by
  refine List.Sublist.append ?_ (List.Sublist.refl C)
  rw [← List.append_assoc]
  exact List.sublist_append_left _ _
theorem sv_for (hp : PassesOwn (model X.prog X.w) X.A X.env X.xe) (hc : X.calm = true) (hw : Iv X R tg iter w) (hg : Gv X R tg ws g) (hb : SSv X R pr body f) (hpr : ∀ i ∈ pr, i ∉ ws) (hs : ∀ x, foldedSetIterable iter X.env x = pure x := by intro _; rfl) :
    Sv X R pr (.For tg iter body [] pos) (sFor w g f) := by
  refine ⟨fun ρ r ρ' h => ?_, ps_mono (ps_for hp hc hw.pi hg.pg hb.ps hs) fun D σ H h => ?_⟩
  · unfold sFor at h
    rw [Option.bind_eq_some_iff] at h
    obtain ⟨⟨items, rs, ρ1⟩, h1, h⟩ := h
    exact (forP_len hg.len hb.len _ _ _ _ h).trans (hw.len _ _ _ _ h1)
  · obtain ⟨e, F, ρ, tm, fl, ρ', hl, hB, hf, k⟩ := h
    unfold sFor at hf
    rw [Option.bind_eq_some_iff] at hf
    obtain ⟨⟨items, rs, ρ1⟩, h1, hf⟩ := hf
    have l1 := hw.len _ _ _ _ h1
    refine ⟨e, F, ρ, tm, items, rs, ρ1, hl, hB, h1, fun J H1 F1 xs B1 k1 wk _ => ?_⟩
    generalize htI : (rs.map tmpOf).zip (xs.map some) = tI at B1 wk
    refine ⟨fun i m σ1 H1 => m = items.length - i ∧ i ≤ items.length ∧ ∃ F1 ρ1, ρ1.length = σ1.length ∧ σ1.length = σ.length ∧ (∀ j ∈ pr, σ1[j]? = σ[j]?) ∧ Bag R e F1 H1 (ρ1.zip σ1 ++ tm ++ tI) ∧ forP g f (items.drop i) ρ1 = some (fl, ρ'), ⟨_, rfl, Nat.zero_le _, F1, ρ1, by omega, rfl, fun _ _ => rfl, B1, by simpa using hf⟩, ?_⟩
    rintro i m σ2 H2 ⟨rfl, hi, F2, ρ2, l2, l2', p2, B2, h2⟩
    obtain ⟨wgo, wstop⟩ := wk e F2 H2 _ i B2
    by_cases hlt : i < items.length
    · obtain ⟨go, yl⟩ := wgo hlt
      have ed : items.drop i = items[i] :: items.drop (i + 1) := by rw [List.drop_eq_getElem_cons hlt]
      rw [ed] at h2
      unfold forP at h2
      rw [Option.bind_eq_some_iff] at h2
      obtain ⟨ρ3, g3, h2⟩ := h2
      rw [Option.bind_eq_some_iff] at h2
      obtain ⟨⟨fb, ρ4⟩, g4, h2⟩ := h2
      have l3 := hg.len _ _ _ g3
      have l4 := hb.len _ _ _ g4
      refine .inr ⟨go, fun σ' H' => ∃ F1 ρ1, ρ1.length = σ'.length ∧ σ'.length = σ.length ∧ (∀ j ∈ pr, σ'[j]? = σ[j]?) ∧ Bag R e F1 H' (ρ1.zip σ' ++ tm ++ tI) ∧ forP g f (items.drop (i + 1)) ρ1 = some (fl, ρ'), fun σ' H' hN => ⟨items.length - (i + 1), by omega, rfl, by omega, hN⟩, fun x H' y => ?_⟩
      obtain ⟨p, F3, ep, B3, rp⟩ := yl x H' y
      have ep' : p = items[i] := by rw [List.getElem?_eq_getElem hlt] at ep; cases ep; rfl
      subst ep'
      rw [List.append_assoc] at B3
      refine ⟨e, F3, ρ2, tm ++ tI, _, ρ3, l2, B3, rp, g3, fun σ3 ls3 ks3 B4 => ?_⟩
      refine ⟨e, F3, ρ3, tm ++ tI, fb, ρ4, by omega, B4, g4, fun σ4 H4 F4 ls4 ks4 => ?_⟩
      have prk : ∀ j ∈ pr, σ4[j]? = σ[j]? := fun j hj => by rw [ks4 j hj, ks3 j (hpr j hj), p2 j hj]
      have again : forP g f (items.drop (i + 1)) ρ4 = some (fl, ρ') → Bag R e F4 H4 (ρ4.zip σ4 ++ (tm ++ tI)) → ∃ F1 ρ1, ρ1.length = σ4.length ∧ σ4.length = σ.length ∧ (∀ j ∈ pr, σ4[j]? = σ[j]?) ∧ Bag R e F1 H4 (ρ1.zip σ4 ++ tm ++ tI) ∧ forP g f (items.drop (i + 1)) ρ1 = some (fl, ρ') := fun h5 B5 =>
        ⟨F4, ρ4, by omega, by omega, prk, by rw [List.append_assoc]; exact B5, h5⟩
      cases fb with
      | nx => exact again h2
      | ct => exact again h2
      | bk =>
        cases h2
        intro B5
        refine k σ4 H4 F4 (by omega) prk ?_
        rw [← List.append_assoc] at B5
        exact B5.sublist (List.sublist_append_left _ _)
      | rt v =>
        cases h2
        intro x5 B5
        exact k σ4 H4 F4 (by omega) prk x5 (B5.sublist sub_tm)
    · have ei : i = items.length := by omega
      rw [ei, List.drop_length] at h2
      cases h2
      refine .inl ⟨wstop ei, ?_⟩
      refine k σ2 H2 F2 l2' p2 ?_
      exact B2.sublist (List.sublist_append_left _ _)
end

/-! ### while -/
def wNext (k : PSF) (x : Fl × List Sl) : Option (Fl × List Sl) := match x.1 with
  | .nx => k x.2
  | .ct => k x.2
  | .bk => some (.nx, x.2)
  | .rt v => some (.rt v, x.2)
theorem wNext_mono {k k' : PSF} {x : Fl × List Sl} {r : Fl × List Sl} (h : ∀ ρ r, k ρ = some r → k' ρ = some r) (q : wNext k x = some r) : wNext k' x = some r := by
  obtain ⟨fb, ρ⟩ := x
  cases fb with
  | nx => exact h _ _ q
  | ct => exact h _ _ q
  | bk => exact q
  | rt v => exact q
def whileN (g : PT') (body : PSF) : Nat → PSF
  | 0 => fun _ => none
  | n + 1 => fun ρ => (g ρ).bind fun c => if c.1 = true then (body c.2).bind (wNext (whileN g body n)) else some (.nx, c.2)
open Classical in
noncomputable def sWhile (g : PT') (body : PSF) : PSF := fun ρ => if h : ∃ n r, whileN g body n ρ = some r then whileN g body h.choose ρ else none
theorem while_step {g : PT'} {f k k' : PSF} {ρ : List Sl} {r : Fl × List Sl} (m : ∀ ρ r, k ρ = some r → k' ρ = some r) (h : ((g ρ).bind fun c => if c.1 = true then (f c.2).bind (wNext k) else some (.nx, c.2)) = some r) : ((g ρ).bind fun c => if c.1 = true then (f c.2).bind (wNext k') else some (.nx, c.2)) = some r := by
  rw [Option.bind_eq_some_iff] at h ⊢
  obtain ⟨⟨c, ρ1⟩, h1, h⟩ := h
  refine ⟨(c, ρ1), h1, ?_⟩
  cases c with
  | false => exact h
  | true =>
    rw [if_pos rfl] at h ⊢
    rw [Option.bind_eq_some_iff] at h ⊢
    obtain ⟨x, h2, h⟩ := h
    exact ⟨x, h2, wNext_mono m h⟩
theorem whileN_mono {g : PT'} {f : PSF} : ∀ {n : Nat} {ρ : List Sl} {r : Fl × List Sl}, whileN g f n ρ = some r → ∀ m, n ≤ m → whileN g f m ρ = some r
  | 0, _, _, h, _, _ => by cases h
  | n + 1, ρ, r, h, 0, hm => by omega
  | n + 1, ρ, r, h, m + 1, hm => while_step (fun ρ r q => whileN_mono q m (by omega)) h
theorem sWhile_iff {g : PT'} {f : PSF} {ρ : List Sl} {r : Fl × List Sl} : sWhile g f ρ = some r ↔ ∃ n, whileN g f n ρ = some r := by
  constructor
  · intro h
    unfold sWhile at h
    split at h
    · exact ⟨_, h⟩
    · cases h
  · rintro ⟨n, h⟩
    have ex : ∃ n r, whileN g f n ρ = some r := ⟨n, r, h⟩
    unfold sWhile
    rw [dif_pos ex]
    obtain ⟨r', hr'⟩ := ex.choose_spec
    have h1 := whileN_mono hr' (max ex.choose n) (by omega)
    have h2 := whileN_mono h (max ex.choose n) (by omega)
    rw [h1] at h2
    cases h2
    exact hr'
/-- one turn more -/
theorem sWhile_eq {g : PT'} {f : PSF} {ρ : List Sl} : sWhile g f ρ = (g ρ).bind fun c => if c.1 = true then (f c.2).bind (wNext (sWhile g f)) else some (.nx, c.2) := by
  have key : ∀ r, sWhile g f ρ = some r ↔ ((g ρ).bind fun c => if c.1 = true then (f c.2).bind (wNext (sWhile g f)) else some (.nx, c.2)) = some r := by
    intro r
    rw [sWhile_iff]
    constructor
    · rintro ⟨n, h⟩
      cases n with
      | zero => cases h
      | succ n => exact while_step (fun ρ r q => sWhile_iff.mpr ⟨n, q⟩) h
    · intro h
      have hq := h
      rw [Option.bind_eq_some_iff] at h
      obtain ⟨⟨c, ρ1⟩, h1, h⟩ := h
      have goal : ∀ n, ((g ρ).bind fun c => if c.1 = true then (f c.2).bind (wNext (whileN g f n)) else some (.nx, c.2)) = some r → ∃ n, whileN g f n ρ = some r := fun n q => ⟨n + 1, q⟩
      cases c with
      | false => exact goal 0 (by rw [h1]; exact h)
      | true =>
        rw [if_pos rfl] at h
        rw [Option.bind_eq_some_iff] at h
        obtain ⟨⟨fb, ρ2⟩, h2, h⟩ := h
        dsimp only at h2
        have fin : ∀ n, wNext (whileN g f n) (fb, ρ2) = some r → ∃ n, whileN g f n ρ = some r := fun n q => goal n (by
          rw [h1]
          show (f ρ1).bind (wNext (whileN g f n)) = some r
          rw [h2]
          exact q)
        cases fb with
        | nx => obtain ⟨n, hn⟩ := sWhile_iff.mp h; exact fin n hn
        | ct => obtain ⟨n, hn⟩ := sWhile_iff.mp h; exact fin n hn
        | bk => exact fin 0 h
        | rt v => exact fin 0 h
  cases q : sWhile g f ρ with
  | some r => exact ((key r).mp q).symm
  | none =>
    cases q2 : ((g ρ).bind fun c => if c.1 = true then (f c.2).bind (wNext (sWhile g f)) else some (.nx, c.2)) with
    | none => rfl
    | some r => rw [(key r).mpr q2] at q; cases q
section
variable {X : Cx} {R : RE} {pr : List Nat} {c : Expr} {g : PT'} {f : PSF} {body : List Stmt} {pos : Pos}
theorem whileN_len (lg : ∀ ρ r ρ', g ρ = some (r, ρ') → ρ'.length = ρ.length) (lf : ∀ ρ r ρ', f ρ = some (r, ρ') → ρ'.length = ρ.length) : ∀ (n : Nat) (ρ : List Sl) (fl : Fl) (ρ' : List Sl), whileN g f n ρ = some (fl, ρ') → ρ'.length = ρ.length
  | 0, _, _, _, h => by cases h
  | n + 1, ρ, fl, ρ', h => by
    unfold whileN at h
    rw [Option.bind_eq_some_iff] at h
    obtain ⟨⟨b, ρ1⟩, h1, h⟩ := h
    have l1 := lg _ _ _ h1
    cases b with
    | false => rw [if_neg Bool.false_ne_true] at h; cases h; exact l1
    | true =>
      rw [if_pos rfl] at h
      rw [Option.bind_eq_some_iff] at h
      obtain ⟨⟨fb, ρ2⟩, h2, h⟩ := h
      have l : ρ2.length = ρ.length := (lf _ _ _ h2).trans l1
      cases fb with
      | nx => exact (whileN_len lg lf n _ _ _ h).trans l
      | ct => exact (whileN_len lg lf n _ _ _ h).trans l
      | bk => cases h; exact l
      | rt v => cases h; exact l
theorem sv_while (hp : PassesOwn (model X.prog X.w) X.A X.env X.xe) (hc : Tv X R c g) (hb : SSv X R pr body f) : Sv X R pr (.While c body [] pos) (sWhile g f) := by
  refine ⟨fun ρ r ρ' h => ?_, ps_mono (ps_while hp hc.pt hb.ps) fun D σ H h => ?_⟩
  · obtain ⟨n, h⟩ := sWhile_iff.mp h
    exact whileN_len hc.len hb.len n _ _ _ h
  · obtain ⟨e, F, ρ, tm, fl, ρ', hl, hB, hf, k⟩ := h
    obtain ⟨n, hf⟩ := sWhile_iff.mp hf
    refine ⟨fun m σ1 H1 => ∃ F1 ρ1, ρ1.length = σ1.length ∧ σ1.length = σ.length ∧ (∀ j ∈ pr, σ1[j]? = σ[j]?) ∧ Bag R e F1 H1 (ρ1.zip σ1 ++ tm) ∧ whileN g f m ρ1 = some (fl, ρ'), ⟨n, F, ρ, hl, rfl, fun _ _ => rfl, hB, hf⟩, ?_⟩
    rintro m σ1 H1 ⟨F1, ρ1, l1, l1', p1, B1, h1⟩
    cases m with
    | zero => cases h1
    | succ m =>
      unfold whileN at h1
      rw [Option.bind_eq_some_iff] at h1
      obtain ⟨⟨b, ρ2⟩, h2, h1⟩ := h1
      refine ⟨e, F1, ρ1, tm, b, ρ2, l1, B1, h2, fun H2 F2 B2 => ?_⟩
      have l2 := hc.len _ _ _ h2
      cases b with
      | false =>
        refine iteF ?_
        rw [if_neg Bool.false_ne_true] at h1
        cases h1
        exact k σ1 H2 F2 l1' p1 B2
      | true =>
        refine iteT ?_
        rw [if_pos rfl] at h1
        rw [Option.bind_eq_some_iff] at h1
        obtain ⟨⟨fb, ρ3⟩, h3, h1⟩ := h1
        have l3 := hb.len _ _ _ h3
        dsimp only at l3
        refine ⟨fun σ' H' => ∃ F1 ρ1, ρ1.length = σ'.length ∧ σ'.length = σ.length ∧ (∀ j ∈ pr, σ'[j]? = σ[j]?) ∧ Bag R e F1 H' (ρ1.zip σ' ++ tm) ∧ whileN g f m ρ1 = some (fl, ρ'), fun σ' H' hN => ⟨m, Nat.lt_succ_self _, hN⟩, ?_⟩
        refine ⟨e, F2, ρ2, tm, fb, ρ3, by omega, B2, h3, fun σ4 H4 F4 ls4 ks4 => ?_⟩
        have prk : ∀ j ∈ pr, σ4[j]? = σ[j]? := fun j hj => by rw [ks4 j hj, p1 j hj]
        cases fb with
        | nx => exact fun B5 => ⟨F4, ρ3, by omega, by omega, prk, B5, h1⟩
        | ct => exact fun B5 => ⟨F4, ρ3, by omega, by omega, prk, B5, h1⟩
        | bk => cases h1; exact fun B5 => k σ4 H4 F4 (by omega) prk B5
        | rt v => cases h1; exact fun x B5 => k σ4 H4 F4 (by omega) prk x B5
end

/-! ### list comprehensions -/
structure Tsv (X : Cx) (R : RE) (ifs : List Expr) (f : PT') : Prop where
  len : ∀ ρ r ρ', f ρ = some (r, ρ') → ρ'.length = ρ.length
  pts : PTs X ifs (TTv R f)
def tTrue : PT' := fun ρ => some (true, ρ)
section
variable {X : Cx} {R : RE} {c : Expr} {g : PT'} {ifs : List Expr}
theorem pts_mono {t t' : TT} (h : PTs X ifs t) (m : ∀ σ H Q, t' σ H Q → t σ H Q) : PTs X ifs t' := ⟨fun pins s σ H Q I q => h.run pins s σ H Q I (m σ H Q q)⟩
theorem tsv_nil : Tsv X R [] tTrue := ⟨fun ρ r ρ' h => by cases h; rfl, pts_mono pts_nil fun σ H Q h => by
  obtain ⟨e, F, ρ, tm, b, ρ', hl, hB, hf, k⟩ := h
  cases hf
  exact k H F hB⟩
theorem tsv_one (h : Tv X R c g) : Tsv X R [c] g := ⟨h.len, pts_one h.pt⟩
end
def wipeS (ρ : List Sl) : List Nat → List Sl
  | [] => ρ
  | v :: vs => (wipeS ρ vs).set v .un
theorem wipeS_len (ρ : List Sl) : ∀ vs : List Nat, (wipeS ρ vs).length = ρ.length
  | [] => rfl
  | v :: vs => by unfold wipeS; rw [List.length_set, wipeS_len ρ vs]
/-- the contents of the own names come back -/
def backS (ρ : List Sl) : List Nat → List Sl → List Sl
  | v :: vs, s :: ss => (backS ρ vs ss).set v s
  | _, _ => ρ
theorem backS_len (ρ : List Sl) : ∀ (vs : List Nat) (ss : List Sl), (backS ρ vs ss).length = ρ.length
  | [], _ => by unfold backS; rfl
  | v :: vs, [] => by unfold backS; rfl
  | v :: vs, s :: ss => by unfold backS; rw [List.length_set, backS_len ρ vs ss]
def keepS (ρ : List Sl) (vs : List Nat) : List Sl := vs.map fun v => (ρ[v]?).getD .un
def lcP (vs : List Nat) (g : PGF) (tt : PT') (fe : PF) : List PV → List Sl → Option (List PV × List Sl)
  | [], ρ => some ([], ρ)
  | p :: ps, ρ => (g p (wipeS ρ vs)).bind fun ρ1 => (tt ρ1).bind fun b => if b.1 = true then (fe b.2).bind fun x => (valOf x.1).bind fun q => (lcP vs g tt fe ps x.2).map fun r => (q :: r.1, r.2)
    else lcP vs g tt fe ps b.2
def eLc (w : PIF) (vs : List Nat) (g : PGF) (tt : PT') (fe : PF) : PF := fun ρ => (w ρ).bind fun x => (lcP vs g tt fe x.1 x.2.2).map fun r =>
  (.own r.1, putB x.2.1 (x.2.1.map tmpOf) (backS r.2 vs (keepS x.2.2 vs)))
section
variable {R : RE} {e : En} {F H : Hp} {B C : Bg}
/-- a content taken out of its place -/
theorem Bag.out {v : Nat} {s : Sl} {o : Option V} (h : Bag R e F H (B ++ C)) (g : B[v]? = some (s, o)) : Bag R e F H (B.set v (.un, none) ++ (s, o) :: C) := by
  have hv := (List.getElem?_eq_some_iff.mp g).1
  have eB : B = B.take v ++ (s, o) :: B.drop (v + 1) := by
    have h1 : B[v] = (s, o) := (List.getElem?_eq_some_iff.mp g).2
    rw [← h1, ← List.drop_eq_getElem_cons hv, List.take_append_drop]
  have eS : B.set v (.un, none) = B.take v ++ (.un, none) :: B.drop (v + 1) := by
    rw [List.set_eq_take_append_cons_drop, if_pos hv]
  have h1 : Bag R e F H (B ++ C ++ [(.un, none)]) := h.push_un
  refine h1.perm ?_
  rw [eS]
  have p1 : (B ++ C ++ [((Sl.un, none) : Sl × Option V)]).Perm ((B.take v ++ (s, o) :: B.drop (v + 1)) ++ C ++ [((Sl.un, none) : Sl × Option V)]) := by rw [← eB]
  refine p1.trans ?_
  have : ∀ (A D : Bg) (p q : Sl × Option V), ((A ++ p :: D) ++ C ++ [q]).Perm ((A ++ q :: D) ++ p :: C) := by
    intro A D p q
    simp only [List.append_assoc]
    refine (List.Perm.refl A).append ?_
    have e1 : (p :: D ++ (C ++ [q])).Perm (p :: (q :: (D ++ C))) := by
      rw [List.cons_append, ← List.append_assoc]
      exact (List.perm_append_singleton q (D ++ C)).cons p
    have e2 : (q :: D ++ p :: C).Perm (q :: (p :: (D ++ C))) := by
      rw [List.cons_append]
      exact List.perm_middle.cons q
    exact e1.trans ((List.Perm.swap q p _).trans e2.symm)
  exact this _ _ _ _
theorem wipeS_out {ρ : List Sl} {v : Nat} : ∀ {vs : List Nat}, v ∉ vs → (wipeS ρ vs)[v]? = ρ[v]?
  | [], _ => rfl
  | u :: vs, h => by
    unfold wipeS
    rw [List.getElem?_set_ne fun z => h (by rw [z]; exact List.mem_cons_self), wipeS_out fun z => h (List.mem_cons_of_mem _ z)]
/-- the own names' contents are laid aside -/
theorem Bag.aside {ρ : List Sl} {σ : L2.St} : ∀ {vs : List Nat}, vs.Nodup → ρ.length = σ.length → Bag R e F H (ρ.zip σ ++ C) → Bag R e F H ((wipeS ρ vs).zip (wipe σ vs) ++ ((keepS ρ vs).zip (vs.map fun v => (σ[v]?).getD none) ++ C))
  | [], _, _, h => h
  | v :: vs, nd, hl, h => by
    rw [List.nodup_cons] at nd
    have h1 := Bag.aside (vs := vs) nd.2 hl h
    have el : (wipeS ρ vs).length = (wipe σ vs).length := by rw [wipeS_len, wipe_length]; exact hl
    show Bag R e F H (((wipeS ρ vs).set v .un).zip ((wipe σ vs).set v none) ++ (((ρ[v]?).getD .un :: keepS ρ vs).zip ((σ[v]?).getD none :: vs.map fun v => (σ[v]?).getD none) ++ C))
    rw [List.zip_cons_cons, List.cons_append, zip_set2 el]
    by_cases hv : v < ρ.length
    · have g1 : (wipeS ρ vs)[v]? = some ((ρ[v]?).getD .un) := by
        rw [wipeS_out nd.1, List.getElem?_eq_getElem hv]; rfl
      have g2 : (wipe σ vs)[v]? = some ((σ[v]?).getD none) := by
        rw [wipe_out nd.1, List.getElem?_eq_getElem (by omega)]; rfl
      exact h1.out (zip_get g1 g2)
    · rw [List.set_eq_of_length_le (by rw [List.length_zip, wipeS_len, wipe_length]; omega), List.getElem?_eq_none (by omega)]
      have h2 : Bag R e F H ((wipeS ρ vs).zip (wipe σ vs) ++ ((keepS ρ vs).zip (vs.map fun v => (σ[v]?).getD none) ++ C) ++ [(.un, (σ[v]?).getD none)]) := h1.push_un
      refine h2.perm ?_
      rw [List.append_assoc]
      exact (List.Perm.refl _).append (List.perm_append_singleton _ _)
/-- .. and come back -/
theorem Bag.backs {ρ : List Sl} {σ : L2.St} : ∀ {vs : List Nat} {ss : List Sl}, vs.Nodup → ss.length = vs.length → ρ.length = σ.length → Bag R e F H (ρ.zip (wipe σ vs) ++ (ss.zip (vs.map fun v => (σ[v]?).getD none) ++ C)) → Bag R e F H ((backS ρ vs ss).zip σ ++ C)
  | [], [], _, _, _, h => h
  | [], _ :: _, _, l, _, _ => by cases l
  | v :: vs, [], _, l, _, _ => by cases l
  | v :: vs, s :: ss, nd, l, hl, h => by
    rw [List.nodup_cons] at nd
    have e1 : (s :: ss).zip ((v :: vs).map fun v => (σ[v]?).getD none) = (s, (σ[v]?).getD none) :: ss.zip (vs.map fun v => (σ[v]?).getD none) := rfl
    rw [e1, List.cons_append] at h
    have el : ρ.length = (wipe σ (v :: vs)).length := by rw [wipe_length]; exact hl
    -- slot v first: it is not among the others
    have h1 : Bag R e F H ((ρ.set v s).zip ((wipe σ (v :: vs)).set v ((σ[v]?).getD none)) ++ (ss.zip (vs.map fun v => (σ[v]?).getD none) ++ C)) := by
      have h0 : Bag R e F H (ρ.zip (wipe σ (v :: vs)) ++ [] ++ (s, (σ[v]?).getD none) :: (ss.zip (vs.map fun v => (σ[v]?).getD none) ++ C)) := by rw [List.append_nil]; exact h
      have := Bag.slot (i := v) h0 el
      rw [List.append_nil] at this
      exact this
    have e2 : (wipe σ (v :: vs)).set v ((σ[v]?).getD none) = wipe σ vs := by
      show ((wipe σ vs).set v none).set v _ = _
      rw [List.set_set]
      by_cases hv : v < σ.length
      · apply List.ext_getElem?
        intro j
        by_cases z : v = j
        · subst z
          rw [List.getElem?_set_self (by rw [wipe_length]; exact hv), wipe_out nd.1, List.getElem?_eq_getElem hv]; rfl
        · rw [List.getElem?_set_ne z]
      · rw [List.set_eq_of_length_le (by rw [wipe_length]; omega)]
    rw [e2] at h1
    have h2 := Bag.backs (ρ := ρ.set v s) (vs := vs) (ss := ss) nd.2 (by simpa using l) (by rw [List.length_set]; exact hl) h1
    have e3 : backS (ρ.set v s) vs ss = (backS ρ vs ss).set v s := by
      clear h2 h1 h e1
      have : ∀ (vs : List Nat) (ss : List Sl) (ρ : List Sl), v ∉ vs → backS (ρ.set v s) vs ss = (backS ρ vs ss).set v s := by
        intro vs
        induction vs with
        | nil => intro ss ρ _; unfold backS; rfl
        | cons u vs ih =>
          intro ss ρ hu
          cases ss with
          | nil => unfold backS; rfl
          | cons t ss =>
            unfold backS
            rw [ih ss ρ fun z => hu (List.mem_cons_of_mem _ z), List.set_comm _ _ fun z => hu (by rw [z]; exact List.mem_cons_self)]
      exact this vs ss ρ nd.1
    rw [e3] at h2
    unfold backS
    exact h2
/-- the block's slots for the next turn -/
theorem Bag.again {ρ : List Sl} {σ σ2 : L2.St} {vs : List Nat} (h : Bag R e F H (ρ.zip σ2 ++ C)) (hl : ρ.length = σ2.length) (hw : wipe σ2 vs = wipe σ vs) : Bag R e F H ((wipeS ρ vs).zip (wipe σ vs) ++ C) := by
  rw [← hw]
  clear hw
  induction vs with
  | nil => exact h
  | cons v vs ih =>
    have el : (wipeS ρ vs).length = (wipe σ2 vs).length := by rw [wipeS_len, wipe_length]; exact hl
    show Bag R e F H (((wipeS ρ vs).set v .un).zip ((wipe σ2 vs).set v none) ++ C)
    rw [zip_set2 el]
    refine ih.repl fun i p q => ?_
    by_cases hv : v < ((wipeS ρ vs).zip (wipe σ2 vs)).length
    · rw [← List.set_append_left _ _ hv] at q
      by_cases z : v = i
      · subst z
        rw [List.getElem?_set_self (by rw [List.length_append]; omega)] at q
        cases q
        exact .inr ⟨rfl, trivial⟩
      · rw [List.getElem?_set_ne z] at q
        exact .inl q
    · rw [List.set_eq_of_length_le (by omega)] at q
      exact .inl q
end
theorem wipe_same {σ σ2 : L2.St} {vs ws : List Nat} (l : σ2.length = σ.length) (h : ∀ j, j ∉ ws → σ2[j]? = (wipe σ vs)[j]?) (hs : ∀ j ∈ ws, j ∈ vs) : wipe σ2 vs = wipe σ vs := by
  have inn : ∀ {σ : L2.St} {vs : List Nat} {j : Nat}, j ∈ vs → j < σ.length → (wipe σ vs)[j]? = some none := by
    intro σ vs
    induction vs with
    | nil => intro j h; cases h
    | cons v vs ih =>
      intro j hj hl
      unfold wipe
      by_cases z : v = j
      · subst z
        rw [List.getElem?_set_self (by rw [wipe_length]; exact hl)]
      · rw [List.getElem?_set_ne z]
        rcases List.mem_cons.mp hj with y | y
        · exact absurd y.symm z
        · exact ih y hl
  apply List.ext_getElem?
  intro j
  by_cases hj : j ∈ vs
  · by_cases hl : j < σ.length
    · rw [inn hj hl, inn hj (by omega)]
    · rw [List.getElem?_eq_none (by rw [wipe_length]; omega), List.getElem?_eq_none (by rw [wipe_length]; omega)]
  · rw [wipe_out hj, h j fun z => hj (hs j z)]
section
variable {X : Cx} {R : RE} {tg iter elt : Expr} {ifs : List Expr} {w : PIF} {vs ws : List Nat} {g : PGF} {tt : PT'} {fe : PF} {pos : Pos} {scope : Scope} {own : List (Str × Nat)}
theorem lcP_len (lg : ∀ p ρ ρ', g p ρ = some ρ' → ρ'.length = ρ.length) (lt : ∀ ρ r ρ', tt ρ = some (r, ρ') → ρ'.length = ρ.length) (le : ∀ ρ r ρ', fe ρ = some (r, ρ') → ρ'.length = ρ.length) : ∀ (items : List PV) (ρ : List Sl) (zs : List PV) (ρ' : List Sl), lcP vs g tt fe items ρ = some (zs, ρ') → ρ'.length = ρ.length ∧ zs.length ≤ items.length
  | [], ρ, zs, ρ', h => by cases h; exact ⟨rfl, Nat.le_refl _⟩
  | p :: ps, ρ, zs, ρ', h => by
    unfold lcP at h
    rw [Option.bind_eq_some_iff] at h
    obtain ⟨ρ1, h1, h⟩ := h
    rw [Option.bind_eq_some_iff] at h
    obtain ⟨⟨b, ρ2⟩, h2, h⟩ := h
    have l1 := (lt _ _ _ h2).trans ((lg _ _ _ h1).trans (wipeS_len _ _))
    cases b with
    | false =>
      rw [if_neg Bool.false_ne_true] at h
      have := lcP_len lg lt le ps _ _ _ h
      exact ⟨this.1.trans l1, by rw [List.length_cons]; omega⟩
    | true =>
      rw [if_pos rfl] at h
      rw [Option.bind_eq_some_iff] at h
      obtain ⟨⟨r, ρ3⟩, h3, h⟩ := h
      rw [Option.bind_eq_some_iff] at h
      obtain ⟨q, _, h⟩ := h
      rw [Option.map_eq_some_iff] at h
      obtain ⟨⟨zs', ρ4⟩, h5, h⟩ := h
      cases h
      have h6 := lcP_len lg lt le ps _ _ _ h5
      have l3 := le _ _ _ h3
      dsimp only at h6 l3
      refine ⟨h6.1.trans (l3.trans l1), ?_⟩
      show (q :: zs').length ≤ (p :: ps).length
      rw [List.length_cons, List.length_cons]
      have := h6.2
      omega
theorem eLc_some {ρ ρ' : List Sl} {r : Sl} (h : eLc w vs g tt fe ρ = some (r, ρ')) : ∃ items rs ρ1 zs ρ2, w ρ = some (items, rs, ρ1) ∧ lcP vs g tt fe items ρ1 = some (zs, ρ2) ∧ r = .own zs ∧ ρ' = putB rs (rs.map tmpOf) (backS ρ2 vs (keepS ρ1 vs)) := by
  unfold eLc at h
  rw [Option.bind_eq_some_iff] at h
  obtain ⟨⟨items, rs, ρ1⟩, h1, h⟩ := h
  rw [Option.map_eq_some_iff] at h
  obtain ⟨⟨zs, ρ2⟩, h2, h⟩ := h
  cases h
  exact ⟨items, rs, ρ1, zs, ρ2, h1, h2, rfl, rfl⟩
theorem eLc_len (lw : ∀ ρ a b ρ', w ρ = some (a, b, ρ') → ρ'.length = ρ.length) (lg : ∀ p ρ ρ', g p ρ = some ρ' → ρ'.length = ρ.length) (lt : ∀ ρ r ρ', tt ρ = some (r, ρ') → ρ'.length = ρ.length) (le : ∀ ρ r ρ', fe ρ = some (r, ρ') → ρ'.length = ρ.length) :
    ∀ ρ r ρ', eLc w vs g tt fe ρ = some (r, ρ') → ρ'.length = ρ.length := fun ρ r ρ' h => by
  obtain ⟨items, rs, ρ1, zs, ρ2, h1, h2, _, rfl⟩ := eLc_some h
  rw [putB_len, backS_len, (lcP_len lg lt le _ _ _ _ h2).1]
  exact lw _ _ _ _ h1
/-- the reading of a comprehension -/
theorem tLc_of (nd : vs.Nodup) (hws : ∀ j ∈ ws, j ∈ vs) (lw : ∀ ρ a b ρ', w ρ = some (a, b, ρ') → ρ'.length = ρ.length) (lg : ∀ p ρ ρ', g p ρ = some ρ' → ρ'.length = ρ.length) (lt : ∀ ρ r ρ', tt ρ = some (r, ρ') → ρ'.length = ρ.length) (le : ∀ ρ r ρ', fe ρ = some (r, ρ') → ρ'.length = ρ.length)
    (σ : L2.St) (H : Hp) (Q : VK) (h : TEv R (eLc w vs g tt fe) σ H Q) : tLc (TIv R w) (TGv R ws g) (TTv R tt) (TEv R fe) vs σ H Q := by
  obtain ⟨e, F, ρ, tm, r, ρ', hl, hB, hf, k⟩ := h
  obtain ⟨items, rs, ρ1, zs, ρ2, h1, h2, rfl, rfl⟩ := eLc_some hf
  have l1 := lw _ _ _ _ h1
  refine ⟨e, F, ρ, tm, items, rs, ρ1, hl, hB, h1, fun J H1 F1 xs B1 k1 wk hz D nD => ?_⟩
  generalize htI : (rs.map tmpOf).zip (xs.map some) = tI at B1 wk
  generalize hsv : (keepS ρ1 vs).zip (vs.map fun v => (σ[v]?).getD none) = sv
  have l1' : ρ1.length = σ.length := by omega
  have hlz := lcP_len lg lt le _ _ _ _ h2
  -- the first state
  have B2 : Bag R e F1 (upd H1 D (.lst [])) ((wipeS ρ1 vs).zip (wipe σ vs) ++ (sv ++ tm ++ [(.own [], some (.ref D))]) ++ tI) := by
    have b1 := Bag.aside (vs := vs) nd l1' (by rw [List.append_assoc] at B1; exact B1)
    rw [hsv] at b1
    have b2 := b1.new_lst (p := D) nD (xs := []) (vs := []) .nil
    refine b2.perm ?_
    simp only [List.append_assoc]
    refine (List.Perm.refl _).append ((List.Perm.refl _).append ((List.Perm.refl _).append ?_))
    exact (List.perm_append_singleton _ _)
  refine ⟨fun i m H2 => m = items.length - i ∧ i ≤ items.length ∧ ∃ F2 ρ3 acc zs2, ρ3.length = σ.length ∧ Bag R e F2 H2 ((wipeS ρ3 vs).zip (wipe σ vs) ++ (sv ++ tm ++ [(.own acc, some (.ref D))]) ++ tI) ∧ lcP vs g tt fe (items.drop i) ρ3 = some (zs2, ρ2) ∧ acc ++ zs2 = zs ∧ acc.length ≤ i,
    ⟨_, rfl, Nat.zero_le _, F1, ρ1, [], zs, l1', B2, by simpa using h2, rfl, Nat.zero_le _⟩, ?_⟩
  rintro i m H2 ⟨rfl, hi, F2, ρ3, acc, zs2, l3, B3, h3, ez, hac⟩
  obtain ⟨wgo, wstop⟩ := wk e F2 H2 _ i B3
  by_cases hlt : i < items.length
  · obtain ⟨go, yl⟩ := wgo hlt
    have ed : items.drop i = items[i] :: items.drop (i + 1) := by rw [List.drop_eq_getElem_cons hlt]
    rw [ed] at h3
    unfold lcP at h3
    rw [Option.bind_eq_some_iff] at h3
    obtain ⟨ρ4, g4, h3⟩ := h3
    rw [Option.bind_eq_some_iff] at h3
    obtain ⟨⟨b, ρ5⟩, g5, h3⟩ := h3
    refine .inr ⟨go, fun H' => ∃ F2 ρ3 acc zs2, ρ3.length = σ.length ∧ Bag R e F2 H' ((wipeS ρ3 vs).zip (wipe σ vs) ++ (sv ++ tm ++ [(.own acc, some (.ref D))]) ++ tI) ∧ lcP vs g tt fe (items.drop (i + 1)) ρ3 = some (zs2, ρ2) ∧ acc ++ zs2 = zs ∧ acc.length ≤ i + 1, fun H' hN => ⟨items.length - (i + 1), by omega, rfl, by omega, hN⟩, fun x H' y => ?_⟩
    obtain ⟨p, F3, ep, B4, rp⟩ := yl x H' y
    have ep' : p = items[i] := by rw [List.getElem?_eq_getElem hlt] at ep; cases ep; rfl
    subst ep'
    have lg4 := lg _ _ _ g4
    rw [wipeS_len] at lg4
    have lt5 := lt _ _ _ g5
    rw [List.append_assoc] at B4
    refine ⟨e, F3, wipeS ρ3 vs, _, _, ρ4, by rw [wipeS_len, wipe_length]; exact l3, B4, rp, g4, fun σ2 ls2 ks2 B5 => ?_⟩
    rw [wipe_length] at ls2
    have hw := wipe_same ls2 ks2 hws
    refine ⟨hw, e, F3, ρ4, _, b, ρ5, by omega, B5, g5, fun H5 F5 B6 => ?_⟩
    cases b with
    | false =>
      refine iteF ?_
      rw [if_neg Bool.false_ne_true] at h3
      refine ⟨F5, ρ5, acc, zs2, by omega, ?_, h3, ez, by omega⟩
      rw [List.append_assoc]
      exact B6.again (by omega) hw
    | true =>
      refine iteT ?_
      rw [if_pos rfl] at h3
      rw [Option.bind_eq_some_iff] at h3
      obtain ⟨⟨r6, ρ6⟩, g6, h3⟩ := h3
      rw [Option.bind_eq_some_iff] at h3
      obtain ⟨q, hq, h3⟩ := h3
      rw [Option.map_eq_some_iff] at h3
      obtain ⟨⟨zs3, ρ7⟩, h7, h3⟩ := h3
      cases h3
      have le6 : ρ6.length = ρ5.length := le _ _ _ g6
      refine ⟨e, F5, ρ5, _, r6, ρ6, by omega, B6, g6, fun y2 H6 F6 B7 _ => ?_⟩
      obtain ⟨F7, s7, B8, rq⟩ := B7.val hq
      -- the list at D
      have gD : (ρ6.zip σ2 ++ (sv ++ tm ++ [(Sl.own acc, some (V.ref D))] ++ tI))[(ρ6.zip σ2 ++ (sv ++ tm)).length]? = some (.own acc, some (.ref D)) := by
        have : ρ6.zip σ2 ++ (sv ++ tm ++ [(Sl.own acc, some (V.ref D))] ++ tI) = (ρ6.zip σ2 ++ (sv ++ tm)) ++ (Sl.own acc, some (V.ref D)) :: tI := by simp only [List.append_assoc, List.singleton_append]
        rw [this]; exact app_mid
      obtain ⟨a0, us, ea, hF, hH, hr⟩ := B8.all _ _ _ gD
      cases ea
      have hlu := hr.length
      refine ⟨us, hH, by omega, F7, ρ6, acc ++ [q], zs3, by omega, ?_, h7, by rw [← ez, List.append_assoc]; rfl, by rw [List.length_append]; simp; omega⟩
      have B9 := B8.write (t := .own (acc ++ [q])) (o := .lst (us ++ [y2])) gD rfl rfl ⟨D, _, rfl, hF, upd_same, hr.append (.one rq)⟩
      have eS : (ρ6.zip σ2 ++ (sv ++ tm ++ [(Sl.own acc, some (V.ref D))] ++ tI)).set (ρ6.zip σ2 ++ (sv ++ tm)).length (.own (acc ++ [q]), some (.ref D)) = ρ6.zip σ2 ++ (sv ++ tm ++ [(Sl.own (acc ++ [q]), some (V.ref D))] ++ tI) := by
        have e1 : ρ6.zip σ2 ++ (sv ++ tm ++ [(Sl.own acc, some (V.ref D))] ++ tI) = (ρ6.zip σ2 ++ (sv ++ tm)) ++ (Sl.own acc, some (V.ref D)) :: tI := by simp only [List.append_assoc, List.singleton_append]
        rw [e1, List.set_append_right _ _ (Nat.le_refl _), Nat.sub_self, List.set_cons_zero]
        simp only [List.append_assoc, List.singleton_append]
      rw [eS] at B9
      rw [List.append_assoc]
      exact B9.again (by omega) hw
  · have ei : i = items.length := by omega
    rw [ei, List.drop_length] at h3
    cases h3
    rw [List.append_nil] at ez
    subst ez
    refine .inl ⟨wstop ei, ?_⟩
    -- home
    have lk : (keepS ρ1 vs).length = vs.length := by unfold keepS; rw [List.length_map]
    have B4 : Bag R e F2 H2 ((wipeS ρ2 vs).zip (wipe σ vs) ++ ((keepS ρ1 vs).zip (vs.map fun v => (σ[v]?).getD none) ++ (tm ++ ((rs.map tmpOf).zip (xs.map some) ++ [(.own acc, some (.ref D))])))) := by
      rw [hsv, htI]
      refine B3.perm ?_
      simp only [List.append_assoc]
      refine (List.Perm.refl _).append ((List.Perm.refl _).append ((List.Perm.refl _).append ?_))
      exact (List.perm_append_comm)
    have B5 := Bag.backs (ρ := wipeS ρ2 vs) nd lk (by rw [wipeS_len]; exact l3) B4
    have eb : backS (wipeS ρ2 vs) vs (keepS ρ1 vs) = backS ρ2 vs (keepS ρ1 vs) := by
      have : ∀ (vs : List Nat) (ss : List Sl) (ρ : List Sl), ss.length = vs.length → vs.Nodup → backS (wipeS ρ vs) vs ss = backS ρ vs ss := by
        intro vs
        induction vs with
        | nil => intro ss ρ _ _; cases ss <;> (unfold backS wipeS; rfl)
        | cons v vs ih =>
          intro ss ρ hl nd
          cases ss with
          | nil => cases hl
          | cons s ss =>
            rw [List.nodup_cons] at nd
            unfold backS
            have e1 : backS (wipeS ρ (v :: vs)) vs ss = (backS (wipeS ρ vs) vs ss).set v .un := by
              show backS ((wipeS ρ vs).set v .un) vs ss = _
              have : ∀ (vs : List Nat) (ss : List Sl) (ρ : List Sl), v ∉ vs → backS (ρ.set v .un) vs ss = (backS ρ vs ss).set v .un := by
                intro vs
                induction vs with
                | nil => intro ss ρ _; unfold backS; rfl
                | cons u vs ih =>
                  intro ss ρ hu
                  cases ss with
                  | nil => unfold backS; rfl
                  | cons t ss =>
                    unfold backS
                    rw [ih ss ρ fun z => hu (List.mem_cons_of_mem _ z), List.set_comm _ _ fun z => hu (by rw [z]; exact List.mem_cons_self)]
              exact this vs ss _ nd.1
            rw [e1, List.set_set, ih ss ρ (by simpa using hl) nd.2]
      exact this vs _ _ lk nd
    rw [eb] at B5
    rw [← List.append_assoc] at B5
    have B6 := Bag.home (as := rs) (ss := rs.map tmpOf) (C := [(.own acc, some (.ref D))]) (by rw [List.length_map]) (by rw [backS_len]; exact l3) k1 B5
    exact k _ H2 F2 B6 pk_own
theorem ev_lc (hc : X.calm = true) (hN : X.N.Nodup) (hw : Iv X R tg iter w) (ok : BlkOk X.N X.env.scope scope own) (nd : (own.map (·.2)).Nodup) (hws : ∀ j ∈ ws, j ∈ own.map (·.2))
    (hg : ∀ (s : Shared) (H : Hp) (C : Addr) (cl : List (Str × Addr)) (fp : List Addr), Gv (X.blk s H scope (compEnvC scope cl C X.env) fp) R tg ws g) (ht : ∀ (s : Shared) (H : Hp) (C : Addr) (cl : List (Str × Addr)) (fp : List Addr), Tsv (X.blk s H scope (compEnvC scope cl C X.env) fp) R ifs tt)
    (he : ∀ (s : Shared) (H : Hp) (C : Addr) (cl : List (Str × Addr)) (fp : List Addr), Ev (X.blk s H scope (compEnvC scope cl C X.env) fp) R elt fe) (hs : ∀ x, foldedSetIterable iter X.env x = pure x := by intro _; rfl)
    (s0 : Shared) (H0 : Hp) : Ev X R (.ListComp elt [⟨tg, iter, ifs, 0⟩] scope pos) (eLc w (own.map (·.2)) g tt fe) :=
  ⟨eLc_len hw.len (hg s0 H0 0 [] []).len (ht s0 H0 0 [] []).len (he s0 H0 0 [] []).len, pe_mono (pe_lc hc hN hw.pi ok (fun s H C cl fp => (hg s H C cl fp).pg) (fun s H C cl fp => (ht s H C cl fp).pts) (fun s H C cl fp => (he s H C cl fp).pe) hs)
    (tLc_of nd hws hw.len (hg s0 H0 0 [] []).len (ht s0 H0 0 [] []).len (he s0 H0 0 [] []).len)⟩
/-- name = [..] on one line -/
theorem sv_setLc {pr : List Nat} {i : Nat} {y : Str} {py spos : Pos} (hc : X.calm = true) (hN : X.N.Nodup) (hy : X.N[i]? = some y) (hyl : X.env.scope.names.lookup y = some .local) (hp : i ∉ pr)
    (hsw : swapsWith (.ListComp elt [⟨tg, iter, ifs, 0⟩] scope pos) (some (.Name y py)) spos.line X.env = pure true) (hw : Iv X R tg iter w) (ok : BlkOk X.N X.env.scope scope own) (nd : (own.map (·.2)).Nodup) (hws : ∀ j ∈ ws, j ∈ own.map (·.2))
    (hg : ∀ (s : Shared) (H : Hp) (C : Addr) (cl : List (Str × Addr)) (fp : List Addr), Gv (X.blk s H scope (compEnvC scope cl C X.env) fp) R tg ws g) (ht : ∀ (s : Shared) (H : Hp) (C : Addr) (cl : List (Str × Addr)) (fp : List Addr), Tsv (X.blk s H scope (compEnvC scope cl C X.env) fp) R ifs tt)
    (he : ∀ (s : Shared) (H : Hp) (C : Addr) (cl : List (Str × Addr)) (fp : List Addr), Ev (X.blk s H scope (compEnvC scope cl C X.env) fp) R elt fe) (hs : ∀ x, foldedSetIterable iter X.env x = pure x := by intro _; rfl)
    (s0 : Shared) (H0 : Hp) : Sv X R pr (.Assign [.Name y py] (.ListComp elt [⟨tg, iter, ifs, 0⟩] scope pos) spos) (sSet i (eLc w (own.map (·.2)) g tt fe)) := by
  have le := eLc_len (vs := own.map (·.2)) hw.len (hg s0 H0 0 [] []).len (ht s0 H0 0 [] []).len (he s0 H0 0 [] []).len
  refine ⟨sSet_len le, ps_mono (ps_setLc hc hN hy hyl hsw hw.pi ok (fun s H C cl fp => (hg s H C cl fp).pg) (fun s H C cl fp => (ht s H C cl fp).pts) (fun s H C cl fp => (he s H C cl fp).pe) hs) fun D σ H q => ?_⟩
  exact tLc_of nd hws hw.len (hg s0 H0 0 [] []).len (ht s0 H0 0 [] []).len (he s0 H0 0 [] []).len σ H _ (tSet_of hp le q)
end
end PL
set_option Elab.async false
set_option linter.all false
set_option maxRecDepth 100000
set_option maxHeartbeats 4000000
/-! PLj: what is walked: lists, tuples, ranges, zip, enumerate. -/
namespace PL
open PySem PySem.Spec PyProof.Rows L2

theorem pi_mono {X : Cx} {tg e : Expr} {t t' : TI} (h : PI X tg e t) (m : ∀ σ H Q, t' σ H Q → t σ H Q) : PI X tg e t' := ⟨fun pins s σ H Q I q => h.run pins s σ H Q I (m σ H Q q)⟩

/-! ### a list or a tuple -/
def seqOf : Sl → Option (List PV)
  | .fz (.lst xs) => some xs
  | .fz (.tup xs) => some xs
  | .fz (.scr xs) => some xs
  | .own xs => some xs
  | _ => none
def iSeq (f : PF) : PIF := fun ρ => (f ρ).bind fun x => (seqOf (tmpOf x.1)).map fun items => (items, [x.1], x.2)
def rSeq (K : PySem.W.Frag) (te : TE) : TI := fun σ H Rr => te σ H fun x H1 => (∃ a vs, x = .ref a ∧ SqL K H1 a vs ∧ (vs.length ≤ sizeLine → Rr (Itl K a) H1)) ∨ (∃ a vs, x = .ref a ∧ SqT K H1 a vs ∧ (vs.length ≤ sizeLine → Rr (Itt K a) H1))
theorem pi_seq {X : Cx} {tg l : Expr} {tl : TE} (hl : PE X l tl) : PI X tg l (rSeq X.K tl) := by
  refine ⟨fun pins s σ H R I h => ?_⟩
  refine thn (hl.run pins s σ H _ I h) fun v s1 ⟨x, H1, I1, r1, q1⟩ => ?_
  rcases q1 with ⟨a, vs, e, hq, q⟩ | ⟨a, vs, e, hq, q⟩
  · subst e
    cases r1
    obtain ⟨its, rv, p, hz⟩ := I1.list hq
    refine wpAny_pyIter_list p.isList ?_
    refine ⟨s1.heap.objs.size, [s1.heap.objs.size], _, _, H1, rfl, I1.kept (t' := s1.toks) fun b o e => Heap.get?_push_of_some _ e, turn_list a _, ⟨_, Heap.get?_push_size _ rfl, rfl, rfl⟩, fun b hb => ?_, q hz⟩
    have e : b = s1.heap.objs.size := by simpa using hb
    subst e
    exact I1.fpOk (Nat.le_refl _) (I1.hok.fresh (Nat.le_refl _))
  · subst e
    cases r1
    obtain ⟨its, rv, p, hz⟩ := I1.tuple hq
    refine wpAny_pyIter_tuple (show s1.heap.IsTuple a its.toArray from p) ?_
    refine ⟨s1.heap.objs.size, [s1.heap.objs.size], _, _, H1, rfl, I1.kept (t' := s1.toks) fun b o e => Heap.get?_push_of_some _ e, turn_tuple a _, ⟨_, Heap.get?_push_size _ rfl, rfl, rfl⟩, fun b hb => ?_, q hz⟩
    have e : b = s1.heap.objs.size := by simpa using hb
    subst e
    exact I1.fpOk (Nat.le_refl _) (I1.hok.fresh (Nat.le_refl _))

/-- sources: a list, a tuple -/
inductive Src where
  | l (a : Addr) | t (a : Addr)
def Src.ad : Src → Addr
  | .l a => a
  | .t a => a
def SqS (K : PySem.W.Frag) (H : Hp) : Src → List V → Prop
  | .l a, vs => SqL K H a vs
  | .t a, vs => SqT K H a vs
section
variable {R : RE} {e : En} {F H : Hp}
/-- whether a content is a tuple, or a list -/
def kindOk (src : Src) (s : Sl) : Prop := match src with
  | .l _ => ∀ xs, s ≠ .fz (.tup xs)
  | .t _ => ∃ xs, s = .fz (.tup xs)
/-- .. as it stands later: the same source -/
theorem src_now {s : Sl} {src : Src} {items : List PV} (k : kindOk src s) (q : seqOf s = some items) (h : SlR R F H s (some (.ref src.ad))) (sb : Sub F H) : ∃ vs, SqS R.K H src vs ∧ RpL R F items vs := by
  unfold seqOf at q
  split at q
  · cases q
    obtain ⟨y, ey, r⟩ := h
    cases ey
    cases src with
    | l a =>
      cases r with
      | lst q r => exact ⟨_, SqL.of (sb _ _ q), r⟩
    | t a => obtain ⟨xs, z⟩ := k; cases z
  · cases q
    obtain ⟨y, ey, r⟩ := h
    cases ey
    cases src with
    | l a => exact absurd rfl (k _)
    | t a =>
      cases r with
      | tup q r => exact ⟨_, sb.sqT q.sq, r⟩
  · cases q
    obtain ⟨y, ey, r⟩ := h
    cases ey
    cases src with
    | l a =>
      cases r with
      | scr q r => exact ⟨_, sb.sqL q, r⟩
    | t a => obtain ⟨xs, z⟩ := k; cases z
  · cases q
    obtain ⟨a, vs, ey, _, h2, r⟩ := h
    cases src with
    | l b => cases ey; exact ⟨vs, SqL.of h2, r⟩
    | t b => obtain ⟨xs, z⟩ := k; cases z
  · cases q
theorem src_of' {s : Sl} {x : V} {items : List PV} (h : SlR R F H s (some x)) (sb : Sub F H) (q : seqOf s = some items) : ∃ src, x = .ref src.ad ∧ kindOk src s := by
  unfold seqOf at q
  split at q
  · cases q
    obtain ⟨y, ey, r⟩ := h
    cases ey
    cases r with
    | @lst a _ vs q r => exact ⟨.l a, rfl, fun xs z => by cases z⟩
  · cases q
    obtain ⟨y, ey, r⟩ := h
    cases ey
    cases r with
    | @tup a _ vs q r => exact ⟨.t a, rfl, _, rfl⟩
  · cases q
    obtain ⟨y, ey, r⟩ := h
    cases ey
    cases r with
    | @scr a _ vs q r => exact ⟨.l a, rfl, fun xs z => by cases z⟩
  · cases q
    obtain ⟨a, vs, ey, _, h2, r⟩ := h
    cases ey
    exact ⟨.l a, rfl, fun xs z => by cases z⟩
  · cases q
end
section
variable {X : Cx} {R : RE} {tg l : Expr} {fa fb fc : PF}
theorem iSeq_some {ρ ρ' : List Sl} {items : List PV} {rs : List Sl} (q : iSeq fa ρ = some (items, rs, ρ')) : ∃ r, fa ρ = some (r, ρ') ∧ seqOf (tmpOf r) = some items ∧ rs = [r] := by
  unfold iSeq at q
  rw [Option.bind_eq_some_iff] at q
  obtain ⟨⟨r, ρ1⟩, h1, q⟩ := q
  rw [Option.map_eq_some_iff] at q
  obtain ⟨its, h2, q⟩ := q
  cases q
  exact ⟨r, h1, h2, rfl⟩
theorem iv_seq (hK : R.K = X.K) (h : Ev X R l fa) : Iv X R tg l (iSeq fa) := by
  refine ⟨fun ρ a b ρ' q => ?_, pi_mono (pi_seq h.pe) fun σ H Q q => ?_⟩
  · obtain ⟨r, h1, _⟩ := iSeq_some q
    exact h.len _ _ _ h1
  · obtain ⟨e, F, ρ, tm, items, rs, ρ', hl, hB, hf, k⟩ := q
    obtain ⟨r, h1, h2, rfl⟩ := iSeq_some hf
    refine ⟨e, F, ρ, tm, r, ρ', hl, hB, h1, fun x H1 F1 B1 k1 => ?_⟩
    have hx := B1.all _ _ _ app_last
    obtain ⟨src, ex, kd⟩ := src_of' hx B1.sub h2
    subst ex
    obtain ⟨vs, hq, hr⟩ := src_now kd h2 hx B1.sub
    have key : ∀ J, (∀ (e' : En) (F' H' : Hp) (B : Bg) (i : Nat) (ws : List V), Bag R e' F' H' (B ++ [(tmpOf r, some (.ref src.ad))]) → SqS R.K H' src ws → RpL R F' items ws → (i < items.length → J.go i H' ∧ ∀ x H2, J.yld i H' x H2 → H2 = H' ∧ ws[i]? = some x) ∧ (i = items.length → J.stop i H')) → vs.length ≤ sizeLine → Q J H1 := by
      intro J hJ hz
      refine k J H1 F1 [.ref src.ad] B1 (.cons k1 .nil) (fun e' F' H' B i hB' => ?_) (by rw [hr.length]; exact hz)
      have hx' := hB'.all _ _ _ app_last
      obtain ⟨ws, hw, hrw⟩ := src_now kd h2 hx' hB'.sub
      obtain ⟨j1, j2⟩ := hJ e' F' H' B i ws hB' hw hrw
      refine ⟨fun hi => ⟨(j1 hi).1, fun x H2 y => ?_⟩, j2⟩
      obtain ⟨e1, e2⟩ := (j1 hi).2 x H2 y
      subst e1
      obtain ⟨p, hp, rp⟩ := hrw.get e2
      exact ⟨p, F', hp, hB', rp⟩
    cases src with
    | l a =>
      rw [hK] at hq
      refine .inl ⟨a, vs, rfl, hq, key _ fun e' F' H' B i ws hB' hw hrw => ?_⟩
      rw [hK] at hw
      exact ⟨fun hi => ⟨⟨ws, ws[i]'(by rw [← hrw.length]; exact hi), hw, by simp⟩, fun x H2 y => ⟨y.1, y.2 ws hw⟩⟩, fun hi => ⟨ws, hw, by rw [← hrw.length]; omega⟩⟩
    | t a =>
      rw [hK] at hq
      refine .inr ⟨a, vs, rfl, hq, key _ fun e' F' H' B i ws hB' hw hrw => ?_⟩
      rw [hK] at hw
      exact ⟨fun hi => ⟨⟨ws, ws[i]'(by rw [← hrw.length]; exact hi), hw, by simp⟩, fun x H2 y => ⟨y.1, y.2 ws hw⟩⟩, fun hi => ⟨ws, hw, by rw [← hrw.length]; omega⟩⟩
/-! ### ranges -/
def rangeP (lo : Int) (n : Nat) : List PV := (List.range n).map fun k => PV.int (lo + (k : Nat))
def iRange1 (f : PF) : PIF := fun ρ => (f ρ).bind fun x => match x.1 with
  | .fz (.int j) => if -lineN ≤ j ∧ j ≤ lineN then some (rangeP 0 j.toNat, [], x.2) else none
  | _ => none
def iRange2 (f g : PF) : PIF := fun ρ => (f ρ).bind fun x => (g x.2).bind fun y => match x.1, y.1 with
  | .fz (.int i), .fz (.int j) => if -(2 ^ 62) ≤ i ∧ j < 2 ^ 62 ∧ i < 2 ^ 62 ∧ -(2 ^ 62) ≤ j ∧ j - i ≤ lineN then some (rangeP i (j - i).toNat, [], y.2) else none
  | _, _ => none
theorem wk_range {lo : Int} {n : Nat} : WkOk R (Itr lo n) (rangeP lo n) [] := by
  intro e F H B i hB
  have ln : (rangeP lo n).length = n := by unfold rangeP; simp
  refine ⟨fun hi => ⟨by rw [ln] at hi; exact hi, fun x H' y => ?_⟩, fun hi => by rw [ln] at hi; exact Nat.le_of_eq hi.symm⟩
  obtain ⟨e1, e2⟩ := y
  subst e1 e2
  rw [ln] at hi
  refine ⟨.int (lo + i), F, ?_, hB, .int _⟩
  unfold rangeP
  rw [List.getElem?_map, List.getElem?_range hi]; rfl
theorem iv_range1 {a : Expr} {p pos : Pos} (hg : Gl X "range") (hm : X.mg "range" = none) (ha : Ev X R a fa) (hs : starEach [a] X.env = [(false, eval a X.env)] := by rfl) (hs3 : starEach [] X.env = [] := by rfl) : Iv X R tg (.Call (.Name "range" p) [a] [] pos) (iRange1 fa) := by
  have key : ∀ {ρ ρ' : List Sl} {items : List PV} {rs : List Sl}, iRange1 fa ρ = some (items, rs, ρ') → ∃ j, fa ρ = some (.fz (.int j), ρ') ∧ (-lineN ≤ j ∧ j ≤ lineN) ∧ items = rangeP 0 j.toNat ∧ rs = [] := by
    intro ρ ρ' items rs q
    unfold iRange1 at q
    rw [Option.bind_eq_some_iff] at q
    obtain ⟨⟨r, ρ1⟩, h1, q⟩ := q
    split at q
    · rename_i j e1
      dsimp only at e1
      subst e1
      split at q
      · cases q; exact ⟨j, h1, by assumption, rfl, rfl⟩
      · cases q
    · cases q
  refine ⟨fun ρ a b ρ' q => ?_, pi_mono (pi_range1 hg hm (pa_cons ha.pe pa_nil (by rw [hs]; exact congrArg _ hs3.symm)) hs) fun σ H Q q => ?_⟩
  · obtain ⟨j, h1, _⟩ := key q
    exact ha.len _ _ _ h1
  · obtain ⟨e, F, ρ, tm, items, rs, ρ', hl, hB, hf, k⟩ := q
    obtain ⟨j, h1, h2, rfl, rfl⟩ := key hf
    refine ⟨e, F, ρ, tm, _, ρ', hl, hB, h1, fun x H1 F1 B1 _ => ?_⟩
    have ex := (B1.rq_fz (x := x) (p := .int j) app_last).int
    subst ex
    have hL : (lineN : Int) = 16777216 := rfl
    have hz : (0 - (2:Int) ^ 62) = -4611686018427387904 := by decide
    refine ⟨j, rfl, by omega, by omega, ?_⟩
    refine k _ H1 F1 [] (by simpa using B1.pop) .nil (by simpa using wk_range) ?_
    unfold rangeP
    rw [List.length_map, List.length_range, ← lineN_eq]
    omega
theorem iv_range2 {a b : Expr} {p pos : Pos} (hg : Gl X "range") (hm : X.mg "range" = none) (ha : Ev X R a fa) (hb : Ev X R b fb) (hs : starEach [a, b] X.env = [(false, eval a X.env), (false, eval b X.env)] := by rfl) (hs2 : starEach [b] X.env = [(false, eval b X.env)] := by rfl) (hs3 : starEach [] X.env = [] := by rfl) : Iv X R tg (.Call (.Name "range" p) [a, b] [] pos) (iRange2 fa fb) := by
  have key : ∀ {ρ ρ' : List Sl} {items : List PV} {rs : List Sl}, iRange2 fa fb ρ = some (items, rs, ρ') → ∃ i j ρ1, fa ρ = some (.fz (.int i), ρ1) ∧ fb ρ1 = some (.fz (.int j), ρ') ∧ (-(2 ^ 62) ≤ i ∧ j < 2 ^ 62 ∧ i < 2 ^ 62 ∧ -(2 ^ 62) ≤ j ∧ j - i ≤ lineN) ∧ items = rangeP i (j - i).toNat ∧ rs = [] := by
    intro ρ ρ' items rs q
    unfold iRange2 at q
    rw [Option.bind_eq_some_iff] at q
    obtain ⟨⟨r, ρ1⟩, h1, q⟩ := q
    rw [Option.bind_eq_some_iff] at q
    obtain ⟨⟨r2, ρ2⟩, h2, q⟩ := q
    split at q
    · rename_i i j e1 e2
      dsimp only at e1 e2
      subst e1 e2
      split at q
      · cases q; exact ⟨i, j, ρ1, h1, h2, by assumption, rfl, rfl⟩
      · cases q
    · cases q
  refine ⟨fun ρ a b ρ' q => ?_, pi_mono (pi_range2 hg hm (pa_cons ha.pe (pa_cons hb.pe pa_nil (by rw [hs2, hs3])) (by rw [hs, hs2])) hs hs2) fun σ H Q q => ?_⟩
  · obtain ⟨i, j, ρ1, h1, h2, _⟩ := key q
    exact (hb.len _ _ _ h2).trans (ha.len _ _ _ h1)
  · obtain ⟨e, F, ρ, tm, items, rs, ρ', hl, hB, hf, k⟩ := q
    obtain ⟨i, j, ρ1, h1, h2, h3, rfl, rfl⟩ := key hf
    have l1 := ha.len _ _ _ h1
    refine ⟨e, F, ρ, tm, _, ρ1, hl, hB, h1, fun x H1 F1 B1 _ => ?_⟩
    have ex := (B1.rq_fz (x := x) (p := .int i) app_last).int
    subst ex
    refine ⟨e, F1, ρ1, tm, _, ρ', by omega, B1.pop, h2, fun y H2 F2 B2 _ => ?_⟩
    have ey := (B2.rq_fz (x := y) (p := .int j) app_last).int
    subst ey
    have hL : (lineN : Int) = 16777216 := rfl
    refine ⟨i, j, rfl, ⟨h3.1, h3.2.2.1, h3.2.2.2.1, h3.2.1⟩, ?_⟩
    refine k _ H2 F2 [] (by simpa using B2.pop) .nil (by simpa using wk_range) ?_
    unfold rangeP
    rw [List.length_map, List.length_range, ← lineN_eq]
    omega
end
end PL
set_option Elab.async false
set_option linter.all false
set_option maxRecDepth 100000
set_option maxHeartbeats 4000000
/-! PLk: zip of two and three, enumerate. -/
namespace PySem
open Sem (wp)
open AutoSeq1 (wpAny_loadPart')
set_option maxHeartbeats 4000000 in
theorem meets_enumerate_newB1 {v : Value} {o : Obj} {H : Heap → Prop} (B : Begins v o H) :
    Meets (Builtin.«enumerate.__new__» ⟨[.type "enumerate", v], []⟩) (fun _ R s => H s.heap ∧
      R (.ok (.ret (.ref (s.heap.push o).objs.size)))
        { s with heap := (s.heap.push o).push { cls := .type "enumerate", data := .fields #[.none, .bool false, .ref s.heap.objs.size, rawInt 0, .none, .none] } }) :=
  .of_wp fun prog w A R s h => by
    obtain ⟨hp, g, d, tk, os⟩ := s; obtain ⟨h1, h⟩ := h
    have hsub := sub_enumerate
    have q1 : ∀ {A : Around} {E : Value → Shared → Prop} {Q : Value → Shared → Prop}, Q (.ref hp.objs.size) ⟨hp.push o, g, d, tk, os⟩ → wpAny (model prog w) A (pyIter v) Q E ⟨hp, g, d, tk, os⟩ :=
      fun {A E Q} hq => B.iter prog w A E ⟨hp, g, d, tk, os⟩ Q h1 hq
    wp_walk using q1
    refine wpAny_stack_any fun st => wpAny_pure ?_
    split
    · rename_i c _ _ _ _ _
      cases (c == Value.type "enumerate")
      · wp_walk using q1
        exact ⟨_, rfl, h⟩
      · wp_walk using q1
        exact ⟨_, rfl, h⟩
    · wp_walk using q1
      exact ⟨_, rfl, h⟩
theorem enum_begins1 {prog : Program} {w : World} {A : Around} {E : Value → Shared → Prop} {s : Shared} {v : Value} {o : Obj} {H : Heap → Prop} {Q : Value → Shared → Prop} (B : Begins v o H) (h1 : H s.heap)
    (h : ∀ h', IsEnum h' (s.heap.objs.size + 1) s.heap.objs.size 0 .none → h'.get? s.heap.objs.size = some o → h'.objs.size = s.heap.objs.size + 2 →
      (∀ b o, s.heap.get? b = some o → h'.get? b = some o) → Q (.ref (s.heap.objs.size + 1)) { s with heap := h' }) :
    wpAny (model prog w) A (call (.type "enumerate") [v]) Q E s := by
  refine callType_new F.called_enumerate (by decide) (F.typeCall_enumerate_1 _) (F.newCall_enumerate_1 _) (fun obj => F.args_object_init_2 obj _) F.entry_enumerate_new
    (meets_enumerate_newB1 B) ⟨h1, ?_⟩
  have hz : (s.heap.push o).objs.size = s.heap.objs.size + 1 := Heap.size_push ..
  show _ ∧ _
  rw [hz]
  have he : IsEnum ((s.heap.push o).push { cls := .type "enumerate", data := .fields #[.none, .bool false, .ref s.heap.objs.size, rawInt 0, .none, .none] }) (s.heap.objs.size + 1) s.heap.objs.size 0 .none := by
    have := Heap.get?_push_size (s.heap.push o) (o := { cls := .type "enumerate", data := .fields #[.none, .bool false, .ref s.heap.objs.size, rawInt 0, .none, .none] }) rfl
    rw [hz] at this
    exact this
  refine ⟨⟨_, he, rfl⟩, h _ he (Heap.get?_push_of_some _ (Heap.get?_push_size _ B.free)) (by rw [Heap.size_push, hz]) fun b o x => Heap.get?_push_of_some _ (Heap.get?_push_of_some _ x)⟩
end PySem
namespace PL
open PySem PySem.Spec PyProof.Rows L2

def itS (h : Heap) (it : Addr) (s : Src) (i : Nat) : Prop := match s with
  | .l a => h.IsListIter it a i
  | .t a => h.IsTupleIter it a i
def arS (h : Heap) (s : Src) (its : Array Value) : Prop := match s with
  | .l a => h.IsList a its
  | .t a => h.IsTuple a its
def obS (s : Src) : Obj := match s with
  | .l a => { cls := .type "list_iterator", data := .fields #[.ref a, .int 0 0] }
  | .t a => { cls := .type "tuple_iterator", data := .fields #[.ref a, .int 0 0] }
theorem begS (s : Src) (its : Array Value) : Begins (.ref s.ad) (obS s) fun h => arS h s its := by
  cases s with
  | l a => exact begins_list a its
  | t a => exact begins_tuple a its
theorem drawS {prog : Program} {w : World} {A : Around} (hh : A.handled = none) (it : Addr) (s : Src) (hne : s.ad ≠ it) (its : Array Value) : Draws prog w A it [it, s.ad] its.size (fun i v => its[i]? = some v) (fun i h => itS h it s i ∧ arS h s its) := by
  cases s with
  | l a => exact Draws.list hh it a hne its
  | t a => exact Draws.tuple hh it a hne its
theorem itS_new {h : Heap} {it : Addr} {s : Src} (e : h.get? it = some (obS s)) : itS h it s 0 := by
  cases s with
  | l a => exact ⟨_, e, rfl, rfl⟩
  | t a => exact ⟨_, e, rfl, rfl⟩
theorem itS_obj {h : Heap} {it : Addr} {s : Src} {i : Nat} (e : itS h it s i) : ∃ o, h.get? it = some o ∧ ∀ v, o.data ≠ .cell v := by
  cases s with
  | l a => obtain ⟨o, e, c, d⟩ := e; exact ⟨o, e, fun v z => by rw [d] at z; cases z⟩
  | t a => obtain ⟨o, e, c, d⟩ := e; exact ⟨o, e, fun v z => by rw [d] at z; cases z⟩
theorem itS_at {h h' : Heap} {it : Addr} {s : Src} {i : Nat} (e : itS h it s i) (k : ∀ o, h.get? it = some o → h'.get? it = some o) : itS h' it s i := by
  cases s with
  | l a => obtain ⟨o, e, c, d⟩ := e; exact ⟨o, k o e, c, d⟩
  | t a => obtain ⟨o, e, c, d⟩ := e; exact ⟨o, k o e, c, d⟩
section
variable {X : Cx} {pins : List (Addr × Obj)} {σ : L2.St} {H : Hp} {s : Shared}
theorem Inv.src (I : Inv X pins σ H s) {src : Src} {vs : List V} (h : SqS X.K H src vs) : ∃ its : List Value, Vals vs its ∧ arS s.heap src its.toArray ∧ vs.length ≤ sizeLine ∧ src.ad < s.heap.objs.size := by
  cases src with
  | l a =>
    obtain ⟨its, r, p, z⟩ := I.list h
    exact ⟨its, r, p.isList, z, p.lt⟩
  | t a =>
    obtain ⟨its, r, p, z⟩ := I.tuple h
    exact ⟨its, r, p, z, p.lt⟩
theorem Inv.src_inj (I : Inv X pins σ H s) {src : Src} {vs ws : List V} (h : SqS X.K H src vs) (h' : SqS X.K H src ws) : vs = ws := by
  cases src with
  | l a => exact I.list_inj h h'
  | t a => exact I.tuple_inj h h'
end

/-- a walk of new tuples as a Turn: what is asked of each turn -/
theorem turn_gen {P : Program} {w : World} {K : PySem.W.Frag} {elts : List Expr} {kk : Nat} {tpos : Pos} {J : It} {fp wr : List Addr} {z : Addr} {tn : Nat → Heap → Prop}
    (mem : z ∈ fp) (sub : ∀ b ∈ wr, b ∈ fp)
    (obj : ∀ i h, tn i h → ∀ b ∈ fp, ∃ o, h.get? b = some o ∧ ∀ v, o.data ≠ .cell v)
    (keep : ∀ i h h', tn i h → (∀ b ∈ fp, ∀ o, h.get? b = some o → h'.get? b = some o) → tn i h')
    (item : ∀ (X : Cx), X.prog = P → X.w = w → X.K = K → X.calm = true → ∀ (i : Nat) (pins : List (Addr × Obj)) (s : Shared) (σ : L2.St) (H : Hp), Inv X pins σ H s → tn i s.heap → J.go i H →
      ∃ (fpW : List Addr) (n : Nat) (Pt : Nat → Array Value → Prop) (St : Nat → Heap → Prop) (Mid : Nat → Addr → Heap → Prop), WalksT P w X.A z fpW wr n Pt St Mid ∧ i < n ∧ St i s.heap ∧ (∀ h, St (i + 1) h → tn (i + 1) h) ∧
        ∀ vals, Pt i vals → ∃ xs, Vals xs vals.toList ∧ xs.length ≤ sizeLine ∧ ∀ T, H T = none → J.yld i H (.ref T) (upd H T (.tup xs)))
    (done : ∀ (X : Cx), X.prog = P → X.w = w → X.K = K → X.calm = true → ∀ (i : Nat) (pins : List (Addr × Obj)) (s : Shared) (σ : L2.St) (H : Hp), Inv X pins σ H s → tn i s.heap → J.stop i H →
      ∃ (fpW : List Addr) (Pt : Nat → Array Value → Prop) (St : Nat → Heap → Prop) (Mid : Nat → Addr → Heap → Prop), WalksT P w X.A z fpW wr i Pt St Mid ∧ St i s.heap)
    (self : ∀ (A : Around) (i : Nat) (s : Shared) (Q : Value → Shared → Prop) (E : Value → Shared → Prop), tn i s.heap → Q (.ref z) s → wpAny (model P w) A (pyIter (.ref z)) Q E s) : Turn P w K (.Tuple elts kk tpos) J fp z tn where
  mem := mem
  obj := obj
  keep := keep
  item := by
    intro X hP hw hK hc i pins s σ H E I hf st hg
    obtain ⟨fpW, n, Pt, St, Mid, W, hi, hst, hn, hv⟩ := item X hP hw hK hc i pins s σ H I st hg
    subst hP hw hK
    refine W.item i s _ _ hi hst fun T vals h' tk hPt hT hTup hMid hk => ?_
    obtain ⟨xs, rv, hz, hy⟩ := hv vals hPt
    have hnT : H T = none := I.hok.fresh hT
    refine ⟨_, rfl, W.go elts kk tpos i T { s with heap := h', toks := tk } _ _ hMid fun h'' hst' hk' => ?_⟩
    have hTw : T ∉ wr := W.apart i T h' hMid
    have hTup2 : h''.IsTuple T vals := hTup.at fun o e => hk' T o hTw e
    have new : ObjOk X.prog X.w (upd H T (.tup xs)) h'' T (.tup xs) := ⟨hz, vals.toList, rv, (show vals.toList.toArray = vals by simp) ▸ hTup2⟩
    have I1 : Inv X pins σ (upd H T (.tup xs)) { s with heap := h'', toks := tk } :=
      I.turnedNew (ch := wr) (fun b o hb q => hk' b o hb (hk b o hb q)) (fun b hb => hf b (sub b hb)) hT new
    refine ⟨.ref T, _, I1, rfl, hy T hnT, hn _ hst', fun b hb => ?_⟩
    obtain ⟨o, e, _⟩ := obj i _ st b hb
    rw [upd_ne (Nat.ne_of_lt (Nat.lt_of_lt_of_le (Heap.lt_size e) hT))]
    exact (hf b hb).1
  done := by
    intro X hP hw hK hc i pins s σ H E I hf st hg
    obtain ⟨fpW, Pt, St, Mid, W, hst⟩ := done X hP hw hK hc i pins s σ H I st hg
    subst hP hw hK
    exact W.done s _ _ hst fun h' tk hk => ⟨rfl, I.turnedL (ch := wr) (fun b o hb q => hk b o hb q) fun b hb => hf b (sub b hb)⟩
  self := self

/-- zip of two -/
def ItZ2 (K : PySem.W.Frag) (a b : Src) : It :=
  ⟨fun i H => ∃ xs ys x y, SqS K H a xs ∧ SqS K H b ys ∧ xs[i]? = some x ∧ ys[i]? = some y,
    fun i H v H' => ∃ T x y, v = .ref T ∧ H T = none ∧ H' = upd H T (.tup [x, y]) ∧ (∀ xs, SqS K H a xs → xs[i]? = some x) ∧ ∀ ys, SqS K H b ys → ys[i]? = some y,
    fun i H => ∃ xs ys, SqS K H a xs ∧ SqS K H b ys ∧ i = min xs.length ys.length⟩
theorem vals_get {vs : List V} {its : List Value} (r : Vals vs its) {i : Nat} {u : Value} (h : its.toArray[i]? = some u) : ∃ v, vs[i]? = some v ∧ RelV v u := by
  have h' : its[i]? = some u := by simpa using h
  have hl := r.length
  have hi := (List.getElem?_eq_some_iff.mp h').1
  obtain ⟨u', e, q⟩ := r.get (List.getElem?_eq_getElem (show i < vs.length by omega))
  rw [h'] at e
  cases e
  exact ⟨_, List.getElem?_eq_getElem _, q⟩
theorem turn_zip2 {P : Program} {w : World} {K : PySem.W.Frag} {elts : List Expr} {kk : Nat} {tpos : Pos} {a b : Src} {z TI TO i1 i2 : Addr} (S : ZipSep2 z TI TO i1 i2 [i1, a.ad] [i2, b.ad]) (n1 : a.ad ≠ i1) (n2 : b.ad ≠ i2) :
    Turn P w K (.Tuple elts kk tpos) (ItZ2 K a b) [z, TI, TO, i1, i2] z (fun i h => IsZip h z TI TO .none ∧ IsTupOf2 h TI (.ref i1) (.ref i2) ∧ (∃ x y, IsTupOf2 h TO x y) ∧ itS h i1 a i ∧ itS h i2 b i) := by
  refine turn_gen (wr := [z, TO, i1, i2]) (by simp) (fun b hb => by simp at hb ⊢; rcases hb with h | h | h | h <;> simp [h]) (fun i h st c hc => ?_) (fun i h h' st k => ?_) (fun X hP hw hK hc i pins s σ H I st hg => ?_) (fun X hP hw hK hc i pins s σ H I st hg => ?_) fun A i s Q E st h => wpAny_pyIter_zip st.1 h
  · obtain ⟨hz, hTI, ⟨x, y, hTO⟩, h1, h2⟩ := st
    have e' : c = z ∨ c = TI ∨ c = TO ∨ c = i1 ∨ c = i2 := by simpa using hc
    rcases e' with q | q | q | q | q
    · rw [q]; exact ⟨_, hz, fun v q => nomatch q⟩
    · rw [q]; exact ⟨_, hTI, fun v q => nomatch q⟩
    · rw [q]; exact ⟨_, hTO, fun v q => nomatch q⟩
    · rw [q]; exact itS_obj h1
    · rw [q]; exact itS_obj h2
  · obtain ⟨hz, hTI, ⟨x, y, hTO⟩, h1, h2⟩ := st
    exact ⟨k z (by simp) _ hz, k TI (by simp) _ hTI, ⟨x, y, k TO (by simp) _ hTO⟩, itS_at h1 fun o q => k i1 (by simp) o q, itS_at h2 fun o q => k i2 (by simp) o q⟩
  · subst hP hw hK
    obtain ⟨hz, hTI, hTO, h1, h2⟩ := st
    obtain ⟨xs, ys, x, y, q1, q2, e1, e2⟩ := hg
    obtain ⟨its, r1, a1, z1, _⟩ := Inv.src I q1
    obtain ⟨jts, r2, a2, z2, _⟩ := Inv.src I q2
    refine ⟨_, _, _, _, _, WalksT.zipD2 S (drawS (A := X.A.in1) (I.ok.hd hc) i1 a n1 its.toArray) (drawS (A := X.A.in1) (I.ok.hd hc) i2 b n2 jts.toArray), ?_, ⟨hz, hTI, hTO, ⟨h1, a1⟩, ⟨h2, a2⟩⟩, fun h st => ⟨st.1, st.2.1, st.2.2.1, st.2.2.2.1.1, st.2.2.2.2.1⟩, fun vals hv => ?_⟩
    · have l1 := r1.length
      have l2 := r2.length
      have := (List.getElem?_eq_some_iff.mp e1).1
      have := (List.getElem?_eq_some_iff.mp e2).1
      simp only [List.size_toArray]
      omega
    · obtain ⟨u1, u2, p1, p2, rfl⟩ := hv
      obtain ⟨v1, g1, rv1⟩ := vals_get r1 p1
      obtain ⟨v2, g2, rv2⟩ := vals_get r2 p2
      refine ⟨[v1, v2], .cons rv1 (.cons rv2 .nil), by show 2 ≤ sizeLine; decide, fun T hT => ⟨T, v1, v2, rfl, hT, rfl, fun xs' h' => ?_, fun ys' h' => ?_⟩⟩
      · rw [Inv.src_inj I h' q1]; exact g1
      · rw [Inv.src_inj I h' q2]; exact g2
  · subst hP hw hK
    obtain ⟨hz, hTI, hTO, h1, h2⟩ := st
    obtain ⟨xs, ys, q1, q2, ei⟩ := hg
    obtain ⟨its, r1, a1, z1, _⟩ := Inv.src I q1
    obtain ⟨jts, r2, a2, z2, _⟩ := Inv.src I q2
    have W := WalksT.zipD2 S (drawS (prog := X.prog) (w := X.w) (A := X.A.in1) (I.ok.hd hc) i1 a n1 its.toArray) (drawS (A := X.A.in1) (I.ok.hd hc) i2 b n2 jts.toArray)
    have en : min its.toArray.size jts.toArray.size = i := by
      have l1 := r1.length
      have l2 := r2.length
      simp only [List.size_toArray]
      omega
    rw [en] at W
    exact ⟨_, _, _, _, W, ⟨hz, hTI, hTO, ⟨h1, a1⟩, ⟨h2, a2⟩⟩⟩
def rZ2 (K : PySem.W.Frag) (ta : TA) : TI := fun σ H Rr => ta σ H fun vs H1 => ∃ (a b : Src) (xs ys : List V), vs = [.ref a.ad, .ref b.ad] ∧ SqS K H1 a xs ∧ SqS K H1 b ys ∧ (xs.length ≤ sizeLine → ys.length ≤ sizeLine → Rr (ItZ2 K a b) H1)
theorem pi_zip2 {X : Cx} {e e2 : Expr} {ta : TA} {p pos tpos : Pos} {elts : List Expr} {kk : Nat} (hg : Gl X "zip") (hm : X.mg "zip" = none) (ha : PA X [e, e2] ta)
    (hs : starEach [e, e2] X.env = (false, eval e X.env) :: starEach [e2] X.env := by rfl) (hpl : (backTo pos (starEach [e2] X.env)).any (·.1) = false := by rfl) :
    PI X (.Tuple elts kk tpos) (.Call (.Name "zip" p) [e, e2] [] pos) (rZ2 X.K ta) := by
  refine ⟨fun pins s σ H R I h => ?_⟩
  refine Call_ (ld_blt I hg hm PyProof.Rows.boot_zip (PyProof.Rows.callWith_type1 (thn (ha.run pos pins s σ H _ I h) fun us s1 ⟨vs, H1, I1, r1, q1⟩ => ?_) hs hpl))
  obtain ⟨a, b, xs, ys, ex, hqx, hqy, q⟩ := q1
  subst ex
  cases r1 with
  | cons r rr =>
    cases rr with
    | cons r' rr =>
      cases rr
      cases r
      cases r'
      obtain ⟨its, rv, p1, z1, la⟩ := Inv.src I1 hqx
      obtain ⟨its2, rv2, p2, z2, lb⟩ := Inv.src I1 hqy
      refine zip_begins2 (begS a its.toArray) (begS b its2.toArray) p1 p2 fun h' hz hTI hTO g1 g2 hsz hk => wpAny_pyIter_zip hz ?_
      have I2 : Inv X pins σ H1 { s1 with heap := h' } := I1.kept (t' := s1.toks) hk
      refine ⟨s1.heap.objs.size + 4, [s1.heap.objs.size + 4, s1.heap.objs.size + 2, s1.heap.objs.size + 3, s1.heap.objs.size, s1.heap.objs.size + 1], _, _, H1, rfl, I2,
        turn_zip2 (zip_sep2 (fp1 := [a.ad]) (fp2 := [b.ad]) (fun c hc => by rw [List.mem_singleton.mp hc]; exact la) fun c hc => by rw [List.mem_singleton.mp hc]; exact lb) (Nat.ne_of_lt la) (Nat.ne_of_lt (Nat.lt_succ_of_lt lb)), ⟨hz, hTI, ⟨_, _, hTO⟩, itS_new g1, itS_new g2⟩, fun c hcm => ?_, q z1 z2⟩
      have e' : c = s1.heap.objs.size + 4 ∨ c = s1.heap.objs.size + 2 ∨ c = s1.heap.objs.size + 3 ∨ c = s1.heap.objs.size ∨ c = s1.heap.objs.size + 1 := by simpa using hcm
      have hle : s1.heap.objs.size ≤ c := by
        rcases e' with z | z | z | z | z <;> rw [z] <;> first | exact Nat.le_add_right _ _ | exact Nat.le_refl _
      exact I1.fpOk hle (I1.hok.fresh hle)

/-- zip of three -/
def ItZ3 (K : PySem.W.Frag) (a b c : Src) : It :=
  ⟨fun i H => ∃ xs ys zs x y u, SqS K H a xs ∧ SqS K H b ys ∧ SqS K H c zs ∧ xs[i]? = some x ∧ ys[i]? = some y ∧ zs[i]? = some u,
    fun i H v H' => ∃ T x y u, v = .ref T ∧ H T = none ∧ H' = upd H T (.tup [x, y, u]) ∧ (∀ xs, SqS K H a xs → xs[i]? = some x) ∧ (∀ ys, SqS K H b ys → ys[i]? = some y) ∧ ∀ zs, SqS K H c zs → zs[i]? = some u,
    fun i H => ∃ xs ys zs, SqS K H a xs ∧ SqS K H b ys ∧ SqS K H c zs ∧ i = min (min xs.length ys.length) zs.length⟩
theorem turn_zip3 {P : Program} {w : World} {K : PySem.W.Frag} {elts : List Expr} {kk : Nat} {tpos : Pos} {a b d : Src} {z TI TO i1 i2 i3 : Addr} (S : ZipSep3 z TI TO i1 i2 i3 [i1, a.ad] [i2, b.ad] [i3, d.ad]) (n1 : a.ad ≠ i1) (n2 : b.ad ≠ i2) (n3 : d.ad ≠ i3) :
    Turn P w K (.Tuple elts kk tpos) (ItZ3 K a b d) [z, TI, TO, i1, i2, i3] z (fun i h => IsZip h z TI TO .none ∧ IsTupOf3 h TI (.ref i1) (.ref i2) (.ref i3) ∧ (∃ x y u, IsTupOf3 h TO x y u) ∧ itS h i1 a i ∧ itS h i2 b i ∧ itS h i3 d i) := by
  refine turn_gen (wr := [z, TO, i1, i2, i3]) (by simp) (fun b hb => by simp at hb ⊢; rcases hb with h | h | h | h | h <;> simp [h]) (fun i h st c hc => ?_) (fun i h h' st k => ?_) (fun X hP hw hK hc i pins s σ H I st hg => ?_) (fun X hP hw hK hc i pins s σ H I st hg => ?_) fun A i s Q E st h => wpAny_pyIter_zip st.1 h
  · obtain ⟨hz, hTI, ⟨x, y, u, hTO⟩, h1, h2, h3⟩ := st
    have e' : c = z ∨ c = TI ∨ c = TO ∨ c = i1 ∨ c = i2 ∨ c = i3 := by simpa using hc
    rcases e' with q | q | q | q | q | q
    · rw [q]; exact ⟨_, hz, fun v q => nomatch q⟩
    · rw [q]; exact ⟨_, hTI, fun v q => nomatch q⟩
    · rw [q]; exact ⟨_, hTO, fun v q => nomatch q⟩
    · rw [q]; exact itS_obj h1
    · rw [q]; exact itS_obj h2
    · rw [q]; exact itS_obj h3
  · obtain ⟨hz, hTI, ⟨x, y, u, hTO⟩, h1, h2, h3⟩ := st
    exact ⟨k z (by simp) _ hz, k TI (by simp) _ hTI, ⟨x, y, u, k TO (by simp) _ hTO⟩, itS_at h1 fun o q => k i1 (by simp) o q, itS_at h2 fun o q => k i2 (by simp) o q, itS_at h3 fun o q => k i3 (by simp) o q⟩
  · subst hP hw hK
    obtain ⟨hz, hTI, hTO, h1, h2, h3⟩ := st
    obtain ⟨xs, ys, zs, x, y, u, q1, q2, q3, e1, e2, e3⟩ := hg
    obtain ⟨its, r1, a1, z1, _⟩ := Inv.src I q1
    obtain ⟨jts, r2, a2, z2, _⟩ := Inv.src I q2
    obtain ⟨kts, r3, a3, z3, _⟩ := Inv.src I q3
    refine ⟨_, _, _, _, _, WalksT.zipD3 S (drawS (A := X.A.in1) (I.ok.hd hc) i1 a n1 its.toArray) (drawS (A := X.A.in1) (I.ok.hd hc) i2 b n2 jts.toArray) (drawS (A := X.A.in1) (I.ok.hd hc) i3 d n3 kts.toArray), ?_, ⟨hz, hTI, hTO, ⟨h1, a1⟩, ⟨h2, a2⟩, ⟨h3, a3⟩⟩, fun h st => ⟨st.1, st.2.1, st.2.2.1, st.2.2.2.1.1, st.2.2.2.2.1.1, st.2.2.2.2.2.1⟩, fun vals hv => ?_⟩
    · have l1 := r1.length
      have l2 := r2.length
      have l3 := r3.length
      have := (List.getElem?_eq_some_iff.mp e1).1
      have := (List.getElem?_eq_some_iff.mp e2).1
      have := (List.getElem?_eq_some_iff.mp e3).1
      simp only [List.size_toArray]
      omega
    · obtain ⟨u1, u2, u3, p1, p2, p3, rfl⟩ := hv
      obtain ⟨v1, g1, rv1⟩ := vals_get r1 p1
      obtain ⟨v2, g2, rv2⟩ := vals_get r2 p2
      obtain ⟨v3, g3, rv3⟩ := vals_get r3 p3
      refine ⟨[v1, v2, v3], .cons rv1 (.cons rv2 (.cons rv3 .nil)), by show 3 ≤ sizeLine; decide, fun T hT => ⟨T, v1, v2, v3, rfl, hT, rfl, fun xs' h' => ?_, fun ys' h' => ?_, fun zs' h' => ?_⟩⟩
      · rw [Inv.src_inj I h' q1]; exact g1
      · rw [Inv.src_inj I h' q2]; exact g2
      · rw [Inv.src_inj I h' q3]; exact g3
  · subst hP hw hK
    obtain ⟨hz, hTI, hTO, h1, h2, h3⟩ := st
    obtain ⟨xs, ys, zs, q1, q2, q3, ei⟩ := hg
    obtain ⟨its, r1, a1, z1, _⟩ := Inv.src I q1
    obtain ⟨jts, r2, a2, z2, _⟩ := Inv.src I q2
    obtain ⟨kts, r3, a3, z3, _⟩ := Inv.src I q3
    have W := WalksT.zipD3 S (drawS (prog := X.prog) (w := X.w) (A := X.A.in1) (I.ok.hd hc) i1 a n1 its.toArray) (drawS (A := X.A.in1) (I.ok.hd hc) i2 b n2 jts.toArray) (drawS (A := X.A.in1) (I.ok.hd hc) i3 d n3 kts.toArray)
    have en : min (min its.toArray.size jts.toArray.size) kts.toArray.size = i := by
      have l1 := r1.length
      have l2 := r2.length
      have l3 := r3.length
      simp only [List.size_toArray]
      omega
    rw [en] at W
    exact ⟨_, _, _, _, W, ⟨hz, hTI, hTO, ⟨h1, a1⟩, ⟨h2, a2⟩, ⟨h3, a3⟩⟩⟩
def rZ3 (K : PySem.W.Frag) (ta : TA) : TI := fun σ H Rr => ta σ H fun vs H1 => ∃ (a b c : Src) (xs ys zs : List V), vs = [.ref a.ad, .ref b.ad, .ref c.ad] ∧ SqS K H1 a xs ∧ SqS K H1 b ys ∧ SqS K H1 c zs ∧ (xs.length ≤ sizeLine → ys.length ≤ sizeLine → zs.length ≤ sizeLine → Rr (ItZ3 K a b c) H1)
theorem pi_zip3 {X : Cx} {e e2 e3 : Expr} {ta : TA} {p pos tpos : Pos} {elts : List Expr} {kk : Nat} (hg : Gl X "zip") (hm : X.mg "zip" = none) (ha : PA X [e, e2, e3] ta)
    (hs : starEach [e, e2, e3] X.env = (false, eval e X.env) :: starEach [e2, e3] X.env := by rfl) (hpl : (backTo pos (starEach [e2, e3] X.env)).any (·.1) = false := by rfl) :
    PI X (.Tuple elts kk tpos) (.Call (.Name "zip" p) [e, e2, e3] [] pos) (rZ3 X.K ta) := by
  refine ⟨fun pins s σ H R I h => ?_⟩
  refine Call_ (ld_blt I hg hm PyProof.Rows.boot_zip (PyProof.Rows.callWith_type1 (thn (ha.run pos pins s σ H _ I h) fun us s1 ⟨vs, H1, I1, r1, q1⟩ => ?_) hs hpl))
  obtain ⟨a, b, c, xs, ys, zs, ex, hqx, hqy, hqz, q⟩ := q1
  subst ex
  cases r1 with
  | cons r rr =>
    cases rr with
    | cons r' rr =>
      cases rr with
      | cons r2 rr =>
        cases rr
        cases r
        cases r'
        cases r2
        obtain ⟨its, rv, p1, z1, la⟩ := Inv.src I1 hqx
        obtain ⟨its2, rv2, p2, z2, lb⟩ := Inv.src I1 hqy
        obtain ⟨its3, rv3, p3, z3, lc⟩ := Inv.src I1 hqz
        refine zip_begins3 (begS a its.toArray) (begS b its2.toArray) (begS c its3.toArray) p1 p2 p3 fun h' hz hTI hTO g1 g2 g3 hsz hk => wpAny_pyIter_zip hz ?_
        have I2 : Inv X pins σ H1 { s1 with heap := h' } := I1.kept (t' := s1.toks) hk
        refine ⟨s1.heap.objs.size + 5, [s1.heap.objs.size + 5, s1.heap.objs.size + 3, s1.heap.objs.size + 4, s1.heap.objs.size, s1.heap.objs.size + 1, s1.heap.objs.size + 2], _, _, H1, rfl, I2,
          turn_zip3 (zip_sep3 (fp1 := [a.ad]) (fp2 := [b.ad]) (fp3 := [c.ad]) (fun c hc => by rw [List.mem_singleton.mp hc]; exact la) (fun c hc => by rw [List.mem_singleton.mp hc]; exact lb) fun c hc => by rw [List.mem_singleton.mp hc]; exact lc) (Nat.ne_of_lt la) (Nat.ne_of_lt (Nat.lt_succ_of_lt lb)) (Nat.ne_of_lt (Nat.lt_succ_of_lt (Nat.lt_succ_of_lt lc))), ⟨hz, hTI, ⟨_, _, _, hTO⟩, itS_new g1, itS_new g2, itS_new g3⟩, fun c hcm => ?_, q z1 z2 z3⟩
        have e' : c = s1.heap.objs.size + 5 ∨ c = s1.heap.objs.size + 3 ∨ c = s1.heap.objs.size + 4 ∨ c = s1.heap.objs.size ∨ c = s1.heap.objs.size + 1 ∨ c = s1.heap.objs.size + 2 := by simpa using hcm
        have hle : s1.heap.objs.size ≤ c := by
          rcases e' with z | z | z | z | z | z <;> rw [z] <;> first | exact Nat.le_add_right _ _ | exact Nat.le_refl _
        exact I1.fpOk hle (I1.hok.fresh hle)
/-- enumerate -/
def ItE (K : PySem.W.Frag) (a : Src) : It :=
  ⟨fun i H => ∃ xs x, SqS K H a xs ∧ xs[i]? = some x,
    fun i H v H' => ∃ T x, v = .ref T ∧ H T = none ∧ H' = upd H T (.tup [.int (i : Nat), x]) ∧ (∀ xs, SqS K H a xs → xs[i]? = some x),
    fun i H => ∃ xs, SqS K H a xs ∧ i = xs.length⟩
theorem turn_enumS {P : Program} {w : World} {K : PySem.W.Frag} {elts : List Expr} {kk : Nat} {tpos : Pos} {a : Src} {z it : Addr} (ne : z ≠ it) (nz : z ≠ a.ad) (n1 : a.ad ≠ it) :
    Turn P w K (.Tuple elts kk tpos) (ItE K a) [z, it] z (fun i h => (∃ old, IsEnum h z it ((0 : Int) + ((i : Nat) : Int)) old) ∧ itS h it a i) := by
  refine turn_gen (wr := [z, it]) (by simp) (fun b hb => hb) (fun i h st c hc => ?_) (fun i h h' st k => ?_) (fun X hP hw hK hc i pins s σ H I st hg => ?_) (fun X hP hw hK hc i pins s σ H I st hg => ?_) fun A i s Q E st h => by obtain ⟨⟨old, e⟩, _⟩ := st; exact wpAny_pyIter_enum e h
  · obtain ⟨⟨old, he⟩, h1⟩ := st
    have e' : c = z ∨ c = it := by simpa using hc
    rcases e' with q | q
    · rw [q]; exact ⟨_, he, fun v q => nomatch q⟩
    · rw [q]; exact itS_obj h1
  · obtain ⟨⟨old, he⟩, h1⟩ := st
    exact ⟨⟨old, k z (by simp) _ he⟩, itS_at h1 fun o q => k it (by simp) o q⟩
  · subst hP hw hK
    obtain ⟨he, h1⟩ := st
    obtain ⟨xs, x, q1, e1⟩ := hg
    obtain ⟨its, r1, a1, z1, _⟩ := Inv.src I q1
    have hef : z ∉ [it, a.ad] := by simp [ne, nz]
    refine ⟨_, _, _, _, _, WalksT.enumFrom 0 (drawS (A := X.A.in1) (I.ok.hd hc) it a n1 its.toArray) z ne hef (by simp), ?_, ⟨he, ⟨h1, a1⟩⟩, fun h st => ⟨st.1, st.2.1⟩, fun vals hv => ?_⟩
    · have l1 := r1.length
      have := (List.getElem?_eq_some_iff.mp e1).1
      simp only [List.size_toArray]
      omega
    · obtain ⟨t, u1, p1, rfl⟩ := hv
      obtain ⟨v1, g1, rv1⟩ := vals_get r1 p1
      refine ⟨[.int (i : Nat), v1], .cons ⟨t, by rw [Int.zero_add]⟩ (.cons rv1 .nil), by show 2 ≤ sizeLine; decide, fun T hT => ⟨T, v1, rfl, hT, rfl, fun xs' h' => ?_⟩⟩
      rw [Inv.src_inj I h' q1]; exact g1
  · subst hP hw hK
    obtain ⟨he, h1⟩ := st
    obtain ⟨xs, q1, ei⟩ := hg
    obtain ⟨its, r1, a1, z1, _⟩ := Inv.src I q1
    have hef : z ∉ [it, a.ad] := by simp [ne, nz]
    have W := WalksT.enumFrom 0 (drawS (prog := X.prog) (w := X.w) (A := X.A.in1) (I.ok.hd hc) it a n1 its.toArray) z ne hef (by simp)
    have en : its.toArray.size = i := by
      have l1 := r1.length
      simp only [List.size_toArray]
      omega
    rw [en] at W
    exact ⟨_, _, _, _, W, ⟨he, ⟨h1, a1⟩⟩⟩
def rEn (K : PySem.W.Frag) (ta : TA) : TI := fun σ H Rr => ta σ H fun vs H1 => ∃ (a : Src) (xs : List V), vs = [.ref a.ad] ∧ SqS K H1 a xs ∧ (xs.length ≤ sizeLine → Rr (ItE K a) H1)
theorem pi_enumS {X : Cx} {e : Expr} {ta : TA} {p pos tpos : Pos} {elts : List Expr} {kk : Nat} (hg : Gl X "enumerate") (hm : X.mg "enumerate" = none) (ha : PA X [e] ta) (hs : starEach [e] X.env = [(false, eval e X.env)] := by rfl) :
    PI X (.Tuple elts kk tpos) (.Call (.Name "enumerate" p) [e] [] pos) (rEn X.K ta) := by
  refine ⟨fun pins s σ H R I h => ?_⟩
  refine Call_ (ld_blt I hg hm boot_enumerate (PyProof.Rows.callWith_type1 (thn (ha.run pos pins s σ H _ I h) fun us s1 ⟨vs, H1, I1, r1, q1⟩ => ?_) hs rfl))
  obtain ⟨a, xs, ex, hqx, q⟩ := q1
  subst ex
  cases r1 with
  | cons r rr =>
    cases rr
    cases r
    obtain ⟨its, rv, p1, z1, la⟩ := Inv.src I1 hqx
    refine enum_begins1 (begS a its.toArray) p1 fun h' he g1 hsz hk => wpAny_pyIter_enum he ?_
    have I2 : Inv X pins σ H1 { s1 with heap := h' } := I1.kept (t' := s1.toks) hk
    refine ⟨s1.heap.objs.size + 1, [s1.heap.objs.size + 1, s1.heap.objs.size], _, _, H1, rfl, I2, turn_enumS (Nat.succ_ne_self _) (Nat.ne_of_gt (Nat.lt_succ_of_lt la)) (Nat.ne_of_lt la), ⟨⟨.none, he⟩, itS_new g1⟩, fun c hcm => ?_, q z1⟩
    have e' : c = s1.heap.objs.size + 1 ∨ c = s1.heap.objs.size := by simpa using hcm
    have hle : s1.heap.objs.size ≤ c := by
      rcases e' with z | z <;> rw [z] <;> first | exact Nat.le_add_right _ _ | exact Nat.le_refl _
    exact I1.fpOk hle (I1.hok.fresh hle)
end PL
set_option Elab.async false
set_option linter.all false
set_option maxRecDepth 100000
set_option maxHeartbeats 4000000
/-! PLl: zip, enumerate as what is walked; defs by their bodies. -/
namespace PL
open PySem PySem.Spec PyProof.Rows L2

def zipP : List PV → List PV → List PV
  | x :: xs, y :: ys => .tup [x, y] :: zipP xs ys
  | _, _ => []
def zip3P : List PV → List PV → List PV → List PV
  | x :: xs, y :: ys, z :: zs => .tup [x, y, z] :: zip3P xs ys zs
  | _, _, _ => []
def enumP : Nat → List PV → List PV
  | i, x :: xs => .tup [.int (i : Nat), x] :: enumP (i + 1) xs
  | _, [] => []
theorem zipP_len : ∀ xs ys : List PV, (zipP xs ys).length = min xs.length ys.length
  | [], ys => by simp [zipP]
  | _ :: _, [] => by simp [zipP]
  | x :: xs, y :: ys => by rw [zipP, List.length_cons, zipP_len, List.length_cons, List.length_cons]; omega
theorem zip3P_len : ∀ xs ys zs : List PV, (zip3P xs ys zs).length = min (min xs.length ys.length) zs.length
  | [], ys, zs => by simp [zip3P]
  | _ :: _, [], zs => by simp [zip3P]
  | _ :: _, _ :: _, [] => by simp [zip3P]
  | x :: xs, y :: ys, z :: zs => by rw [zip3P, List.length_cons, zip3P_len]; simp only [List.length_cons]; omega
theorem enumP_len : ∀ (i : Nat) (xs : List PV), (enumP i xs).length = xs.length
  | _, [] => rfl
  | i, x :: xs => by rw [enumP, List.length_cons, enumP_len, List.length_cons]
theorem zipP_get : ∀ {xs ys : List PV} {i : Nat} {x y : PV}, xs[i]? = some x → ys[i]? = some y → (zipP xs ys)[i]? = some (.tup [x, y])
  | [], _, _, _, _, h, _ => by simp at h
  | _ :: _, [], _, _, _, _, h => by simp at h
  | a :: xs, b :: ys, 0, x, y, h1, h2 => by simp at h1 h2; subst h1 h2; rfl
  | a :: xs, b :: ys, i + 1, x, y, h1, h2 => by
    rw [zipP, List.getElem?_cons_succ]
    exact zipP_get (by simpa using h1) (by simpa using h2)
theorem zip3P_get : ∀ {xs ys zs : List PV} {i : Nat} {x y z : PV}, xs[i]? = some x → ys[i]? = some y → zs[i]? = some z → (zip3P xs ys zs)[i]? = some (.tup [x, y, z])
  | [], _, _, _, _, _, _, h, _, _ => by simp at h
  | _ :: _, [], _, _, _, _, _, _, h, _ => by simp at h
  | _ :: _, _ :: _, [], _, _, _, _, _, _, h => by simp at h
  | a :: xs, b :: ys, c :: zs, 0, x, y, z, h1, h2, h3 => by simp at h1 h2 h3; subst h1 h2 h3; rfl
  | a :: xs, b :: ys, c :: zs, i + 1, x, y, z, h1, h2, h3 => by
    rw [zip3P, List.getElem?_cons_succ]
    exact zip3P_get (by simpa using h1) (by simpa using h2) (by simpa using h3)
theorem enumP_get : ∀ {xs : List PV} {j i : Nat} {x : PV}, xs[i]? = some x → (enumP j xs)[i]? = some (.tup [.int ((j + i : Nat)), x])
  | [], _, _, _, h => by simp at h
  | a :: xs, j, 0, x, h => by simp at h; subst h; rfl
  | a :: xs, j, i + 1, x, h => by
    rw [enumP, List.getElem?_cons_succ, enumP_get (j := j + 1) (i := i) (by simpa using h)]
    rw [show j + 1 + i = j + (i + 1) by omega]
def iZip2 (fs : PFs) : PIF := fun ρ => (fs ρ).bind fun x => match x.1 with
  | [r, s] => (seqOf (tmpOf r)).bind fun xs => (seqOf (tmpOf s)).map fun ys => (zipP xs ys, [r, s], x.2)
  | _ => none
def iZip3 (fs : PFs) : PIF := fun ρ => (fs ρ).bind fun x => match x.1 with
  | [r, s, t] => (seqOf (tmpOf r)).bind fun xs => (seqOf (tmpOf s)).bind fun ys => (seqOf (tmpOf t)).map fun zs => (zip3P xs ys zs, [r, s, t], x.2)
  | _ => none
def iEnum (fs : PFs) : PIF := fun ρ => (fs ρ).bind fun x => match x.1 with
  | [r] => (seqOf (tmpOf r)).map fun xs => (enumP 0 xs, [r], x.2)
  | _ => none
section
variable {X : Cx} {R : RE} {a b c : Expr} {fs : PFs} {p pos tpos : Pos} {elts : List Expr} {kk : Nat}
theorem RpL.get2 {F : Hp} {ps : List PV} {vs : List V} (h : RpL R F ps vs) {i : Nat} (hi : i < ps.length) : ∃ p v, ps[i]? = some p ∧ vs[i]? = some v ∧ Rp R F p v := by
  obtain ⟨v, h1, h2⟩ := h.get' (List.getElem?_eq_getElem hi)
  exact ⟨_, v, List.getElem?_eq_getElem hi, h1, h2⟩
theorem iv_zip2 (hK : R.K = X.K) (hg : Gl X "zip") (hm : X.mg "zip" = none) (h : Av X R [a, b] fs)
    (hs : starEach [a, b] X.env = (false, eval a X.env) :: starEach [b] X.env := by rfl) (hpl : (backTo pos (starEach [b] X.env)).any (·.1) = false := by rfl) :
    Iv X R (.Tuple elts kk tpos) (.Call (.Name "zip" p) [a, b] [] pos) (iZip2 fs) := by
  have key : ∀ {ρ ρ' : List Sl} {items : List PV} {rs : List Sl}, iZip2 fs ρ = some (items, rs, ρ') → ∃ r s xs ys, fs ρ = some ([r, s], ρ') ∧ seqOf (tmpOf r) = some xs ∧ seqOf (tmpOf s) = some ys ∧ items = zipP xs ys ∧ rs = [r, s] := by
    intro ρ ρ' items rs q
    unfold iZip2 at q
    rw [Option.bind_eq_some_iff] at q
    obtain ⟨⟨l, ρ1⟩, h1, q⟩ := q
    split at q
    · rename_i r s e1
      dsimp only at e1
      subst e1
      rw [Option.bind_eq_some_iff] at q
      obtain ⟨xs, h2, q⟩ := q
      rw [Option.map_eq_some_iff] at q
      obtain ⟨ys, h3, q⟩ := q
      cases q
      exact ⟨r, s, xs, ys, h1, h2, h3, rfl, rfl⟩
    · cases q
  refine ⟨fun ρ a b ρ' q => ?_, pi_mono (pi_zip2 hg hm h.pa hs hpl) fun σ H Q q => ?_⟩
  · obtain ⟨r, s, xs, ys, h1, _⟩ := key q
    exact h.len _ _ _ h1
  · obtain ⟨e, F, ρ, tm, items, rs, ρ', hl, hB, hf, k⟩ := q
    obtain ⟨r, s, xs, ys, h1, h2, h3, rfl, rfl⟩ := key hf
    refine ⟨e, F, ρ, tm, _, ρ', hl, hB, h1, fun vs H1 F1 B1 k1 => ?_⟩
    match vs, Paired.len k1 with
    | [v1, v2], _ =>
      have e1 : ([r, s].map tmpOf).zip ([v1, v2].map some) = [(tmpOf r, some v1), (tmpOf s, some v2)] := rfl
      rw [e1] at B1
      have at1 : ∀ {e' : En} {F' H' : Hp} {B : Bg}, Bag R e' F' H' (B ++ [(tmpOf r, some v1), (tmpOf s, some v2)]) → SlR R F' H' (tmpOf r) (some v1) ∧ SlR R F' H' (tmpOf s) (some v2) := fun hB => ⟨hB.mem (p := (tmpOf r, some v1)) (by simp), hB.mem (p := (tmpOf s, some v2)) (by simp)⟩
      obtain ⟨x1, x2⟩ := at1 B1
      obtain ⟨s1, ex1, kd1⟩ := src_of' x1 B1.sub h2
      obtain ⟨s2, ex2, kd2⟩ := src_of' x2 B1.sub h3
      subst ex1 ex2
      obtain ⟨ws1, hq1, hr1⟩ := src_now kd1 h2 x1 B1.sub
      obtain ⟨ws2, hq2, hr2⟩ := src_now kd2 h3 x2 B1.sub
      rw [hK] at hq1 hq2
      refine ⟨s1, s2, ws1, ws2, rfl, hq1, hq2, fun z1 z2 => ?_⟩
      refine k _ H1 F1 [.ref s1.ad, .ref s2.ad] B1 k1 (fun e' F' H' B i hB' => ?_) (by rw [zipP_len, hr1.length]; omega)
      obtain ⟨y1, y2⟩ := at1 hB'
      obtain ⟨us1, w1, rr1⟩ := src_now kd1 h2 y1 hB'.sub
      obtain ⟨us2, w2, rr2⟩ := src_now kd2 h3 y2 hB'.sub
      rw [hK] at w1 w2
      rw [zipP_len]
      refine ⟨fun hi => ?_, fun hi => ⟨us1, us2, w1, w2, by rw [hi, rr1.length, rr2.length]⟩⟩
      obtain ⟨p1, t1, g1, g1', rp1⟩ := rr1.get2 (i := i) (by omega)
      obtain ⟨p2, t2, g2, g2', rp2⟩ := rr2.get2 (i := i) (by omega)
      refine ⟨⟨us1, us2, t1, t2, w1, w2, g1', g2'⟩, fun v H2 y => ?_⟩
      obtain ⟨T, a1, a2, rfl, nT, rfl, f1, f2⟩ := y
      have b1 := f1 us1 w1
      have b2 := f2 us2 w2
      rw [g1'] at b1
      rw [g2'] at b2
      cases b1
      cases b2
      refine ⟨.tup [p1, p2], _, zipP_get g1 g2, hB'.lay_ice nT, .tup (.inl upd_same) (.cons ?_ (.cons ?_ .nil))⟩
      · exact rp1.mono (sub_upd (hB'.new nT).1)
      · exact rp2.mono (sub_upd (hB'.new nT).1)
theorem iv_zip3 (hK : R.K = X.K) (hg : Gl X "zip") (hm : X.mg "zip" = none) (h : Av X R [a, b, c] fs)
    (hs : starEach [a, b, c] X.env = (false, eval a X.env) :: starEach [b, c] X.env := by rfl) (hpl : (backTo pos (starEach [b, c] X.env)).any (·.1) = false := by rfl) :
    Iv X R (.Tuple elts kk tpos) (.Call (.Name "zip" p) [a, b, c] [] pos) (iZip3 fs) := by
  have key : ∀ {ρ ρ' : List Sl} {items : List PV} {rs : List Sl}, iZip3 fs ρ = some (items, rs, ρ') → ∃ r s t xs ys zs, fs ρ = some ([r, s, t], ρ') ∧ seqOf (tmpOf r) = some xs ∧ seqOf (tmpOf s) = some ys ∧ seqOf (tmpOf t) = some zs ∧ items = zip3P xs ys zs ∧ rs = [r, s, t] := by
    intro ρ ρ' items rs q
    unfold iZip3 at q
    rw [Option.bind_eq_some_iff] at q
    obtain ⟨⟨l, ρ1⟩, h1, q⟩ := q
    split at q
    · rename_i r s t e1
      dsimp only at e1
      subst e1
      rw [Option.bind_eq_some_iff] at q
      obtain ⟨xs, h2, q⟩ := q
      rw [Option.bind_eq_some_iff] at q
      obtain ⟨ys, h3, q⟩ := q
      rw [Option.map_eq_some_iff] at q
      obtain ⟨zs, h4, q⟩ := q
      cases q
      exact ⟨r, s, t, xs, ys, zs, h1, h2, h3, h4, rfl, rfl⟩
    · cases q
  refine ⟨fun ρ a b ρ' q => ?_, pi_mono (pi_zip3 hg hm h.pa hs hpl) fun σ H Q q => ?_⟩
  · obtain ⟨r, s, t, xs, ys, zs, h1, _⟩ := key q
    exact h.len _ _ _ h1
  · obtain ⟨e, F, ρ, tm, items, rs, ρ', hl, hB, hf, k⟩ := q
    obtain ⟨r, s, t, xs, ys, zs, h1, h2, h3, h4, rfl, rfl⟩ := key hf
    refine ⟨e, F, ρ, tm, _, ρ', hl, hB, h1, fun vs H1 F1 B1 k1 => ?_⟩
    match vs, Paired.len k1 with
    | [v1, v2, v3], _ =>
      have e1 : ([r, s, t].map tmpOf).zip ([v1, v2, v3].map some) = [(tmpOf r, some v1), (tmpOf s, some v2), (tmpOf t, some v3)] := rfl
      rw [e1] at B1
      have at1 : ∀ {e' : En} {F' H' : Hp} {B : Bg}, Bag R e' F' H' (B ++ [(tmpOf r, some v1), (tmpOf s, some v2), (tmpOf t, some v3)]) → SlR R F' H' (tmpOf r) (some v1) ∧ SlR R F' H' (tmpOf s) (some v2) ∧ SlR R F' H' (tmpOf t) (some v3) :=
        fun hB => ⟨hB.mem (p := (tmpOf r, some v1)) (by simp), hB.mem (p := (tmpOf s, some v2)) (by simp), hB.mem (p := (tmpOf t, some v3)) (by simp)⟩
      obtain ⟨x1, x2, x3⟩ := at1 B1
      obtain ⟨s1, ex1, kd1⟩ := src_of' x1 B1.sub h2
      obtain ⟨s2, ex2, kd2⟩ := src_of' x2 B1.sub h3
      obtain ⟨s3, ex3, kd3⟩ := src_of' x3 B1.sub h4
      subst ex1 ex2 ex3
      obtain ⟨ws1, hq1, hr1⟩ := src_now kd1 h2 x1 B1.sub
      obtain ⟨ws2, hq2, hr2⟩ := src_now kd2 h3 x2 B1.sub
      obtain ⟨ws3, hq3, hr3⟩ := src_now kd3 h4 x3 B1.sub
      rw [hK] at hq1 hq2 hq3
      refine ⟨s1, s2, s3, ws1, ws2, ws3, rfl, hq1, hq2, hq3, fun z1 z2 z3 => ?_⟩
      refine k _ H1 F1 [.ref s1.ad, .ref s2.ad, .ref s3.ad] B1 k1 (fun e' F' H' B i hB' => ?_) (by rw [zip3P_len, hr1.length]; omega)
      obtain ⟨y1, y2, y3⟩ := at1 hB'
      obtain ⟨us1, w1, rr1⟩ := src_now kd1 h2 y1 hB'.sub
      obtain ⟨us2, w2, rr2⟩ := src_now kd2 h3 y2 hB'.sub
      obtain ⟨us3, w3, rr3⟩ := src_now kd3 h4 y3 hB'.sub
      rw [hK] at w1 w2 w3
      rw [zip3P_len]
      refine ⟨fun hi => ?_, fun hi => ⟨us1, us2, us3, w1, w2, w3, by rw [hi, rr1.length, rr2.length, rr3.length]⟩⟩
      obtain ⟨p1, t1, g1, g1', rp1⟩ := rr1.get2 (i := i) (by omega)
      obtain ⟨p2, t2, g2, g2', rp2⟩ := rr2.get2 (i := i) (by omega)
      obtain ⟨p3, t3, g3, g3', rp3⟩ := rr3.get2 (i := i) (by omega)
      refine ⟨⟨us1, us2, us3, t1, t2, t3, w1, w2, w3, g1', g2', g3'⟩, fun v H2 y => ?_⟩
      obtain ⟨T, a1, a2, a3, rfl, nT, rfl, f1, f2, f3⟩ := y
      have b1 := f1 us1 w1
      have b2 := f2 us2 w2
      have b3 := f3 us3 w3
      rw [g1'] at b1
      rw [g2'] at b2
      rw [g3'] at b3
      cases b1
      cases b2
      cases b3
      have sb := sub_upd (o := .tup [t1, t2, t3]) (hB'.new nT).1
      exact ⟨.tup [p1, p2, p3], _, zip3P_get g1 g2 g3, hB'.lay_ice nT, .tup (.inl upd_same) (.cons (rp1.mono sb) (.cons (rp2.mono sb) (.cons (rp3.mono sb) .nil)))⟩
theorem iv_enum (hK : R.K = X.K) (hg : Gl X "enumerate") (hm : X.mg "enumerate" = none) (h : Av X R [a] fs) (hs : starEach [a] X.env = [(false, eval a X.env)] := by rfl) :
    Iv X R (.Tuple elts kk tpos) (.Call (.Name "enumerate" p) [a] [] pos) (iEnum fs) := by
  have key : ∀ {ρ ρ' : List Sl} {items : List PV} {rs : List Sl}, iEnum fs ρ = some (items, rs, ρ') → ∃ r xs, fs ρ = some ([r], ρ') ∧ seqOf (tmpOf r) = some xs ∧ items = enumP 0 xs ∧ rs = [r] := by
    intro ρ ρ' items rs q
    unfold iEnum at q
    rw [Option.bind_eq_some_iff] at q
    obtain ⟨⟨l, ρ1⟩, h1, q⟩ := q
    split at q
    · rename_i r e1
      dsimp only at e1
      subst e1
      rw [Option.map_eq_some_iff] at q
      obtain ⟨xs, h2, q⟩ := q
      cases q
      exact ⟨r, xs, h1, h2, rfl, rfl⟩
    · cases q
  refine ⟨fun ρ a b ρ' q => ?_, pi_mono (pi_enumS hg hm h.pa hs) fun σ H Q q => ?_⟩
  · obtain ⟨r, xs, h1, _⟩ := key q
    exact h.len _ _ _ h1
  · obtain ⟨e, F, ρ, tm, items, rs, ρ', hl, hB, hf, k⟩ := q
    obtain ⟨r, xs, h1, h2, rfl, rfl⟩ := key hf
    refine ⟨e, F, ρ, tm, _, ρ', hl, hB, h1, fun vs H1 F1 B1 k1 => ?_⟩
    match vs, Paired.len k1 with
    | [v1], _ =>
      have e1 : ([r].map tmpOf).zip ([v1].map some) = [(tmpOf r, some v1)] := rfl
      rw [e1] at B1
      have at1 : ∀ {e' : En} {F' H' : Hp} {B : Bg}, Bag R e' F' H' (B ++ [(tmpOf r, some v1)]) → SlR R F' H' (tmpOf r) (some v1) := fun hB => hB.mem (p := (tmpOf r, some v1)) (by simp)
      have x1 := at1 B1
      obtain ⟨s1, ex1, kd1⟩ := src_of' x1 B1.sub h2
      subst ex1
      obtain ⟨ws1, hq1, hr1⟩ := src_now kd1 h2 x1 B1.sub
      rw [hK] at hq1
      refine ⟨s1, ws1, rfl, hq1, fun z1 => ?_⟩
      refine k _ H1 F1 [.ref s1.ad] B1 k1 (fun e' F' H' B i hB' => ?_) (by rw [enumP_len, hr1.length]; omega)
      have y1 := at1 hB'
      obtain ⟨us1, w1, rr1⟩ := src_now kd1 h2 y1 hB'.sub
      rw [hK] at w1
      rw [enumP_len]
      refine ⟨fun hi => ?_, fun hi => ⟨us1, w1, by rw [hi, rr1.length]⟩⟩
      obtain ⟨p1, t1, g1, g1', rp1⟩ := rr1.get2 (i := i) (by omega)
      refine ⟨⟨us1, t1, w1, g1'⟩, fun v H2 y => ?_⟩
      obtain ⟨T, a1, rfl, nT, rfl, f1⟩ := y
      have b1 := f1 us1 w1
      rw [g1'] at b1
      cases b1
      have sb := sub_upd (o := .tup [.int (i : Nat), t1]) (hB'.new nT).1
      refine ⟨.tup [.int ((0 + i : Nat)), p1], _, enumP_get (j := 0) g1, hB'.lay_ice nT, .tup (.inl upd_same) (.cons ?_ (.cons (rp1.mono sb) .nil))⟩
      rw [Nat.zero_add]
      exact .int _
end

/-! ### defs -/
def prepP : List Bool → List Sl → List Sl
  | true :: m, s :: ss => (match valOf s with | some p => .fz p | none => .un) :: prepP m ss
  | false :: m, s :: ss => s :: prepP m ss
  | _, ss => ss
def finP : List Bool → List Sl → List Sl → List Sl
  | true :: m, p :: ps, _ :: ρ => p :: finP m ps ρ
  | false :: m, _ :: ps, s :: ρ => s :: finP m ps ρ
  | _, _, _ => []
/-- a def by its body: n parameters of N names; rs: which parameters are bound anew in the body (theirs are frozen) -/
def fnF (N : Nat) (rs : List Bool) (body : PSF) : FP := fun as => (body (prepP rs as ++ List.replicate (N - rs.length) .un)).bind fun x => match x.1 with
  | .rt v => some (v, finP rs (prepP rs as) x.2)
  | .nx => some (.fz .non, finP rs (prepP rs as) x.2)
  | _ => none
theorem prepP_len : ∀ (m : List Bool) (as : List Sl), (prepP m as).length = as.length
  | [], as => by unfold prepP; rfl
  | true :: m, [] => by unfold prepP; rfl
  | false :: m, [] => by unfold prepP; rfl
  | true :: m, s :: ss => by unfold prepP; rw [List.length_cons, List.length_cons, prepP_len m ss]
  | false :: m, s :: ss => by unfold prepP; rw [List.length_cons, List.length_cons, prepP_len m ss]
theorem finP_len : ∀ (m : List Bool) (ps ρ : List Sl), m.length = ps.length → ps.length ≤ ρ.length → (finP m ps ρ).length = ps.length
  | [], [], ρ, _, _ => by unfold finP; rfl
  | [], _ :: _, _, h, _ => by cases h
  | _ :: _, [], _, h, _ => by cases h
  | b :: m, p :: ps, [], _, h => by simp at h
  | b :: m, p :: ps, s :: ρ, h1, h2 => by
    cases b <;> (unfold finP; rw [List.length_cons, List.length_cons, finP_len m ps ρ (by simpa using h1) (by simpa using h2)])
theorem finP_get : ∀ {m : List Bool} {ps ρ : List Sl} {i : Nat} {s : Sl}, m.length = ps.length → ps.length ≤ ρ.length → (finP m ps ρ)[i]? = some s → (m[i]? = some true ∧ ps[i]? = some s) ∨ (m[i]? = some false ∧ ρ[i]? = some s)
  | [], [], ρ, i, s, _, _, h => by unfold finP at h; simp at h
  | [], _ :: _, _, _, _, h, _, _ => by cases h
  | _ :: _, [], _, _, _, h, _, _ => by cases h
  | b :: m, p :: ps, [], _, _, _, h, _ => by simp at h
  | b :: m, p :: ps, t :: ρ, 0, s, h1, h2, h => by
    cases b
    · unfold finP at h; simp at h; subst h; exact .inr ⟨rfl, rfl⟩
    · unfold finP at h; simp at h; subst h; exact .inl ⟨rfl, rfl⟩
  | b :: m, p :: ps, t :: ρ, i + 1, s, h1, h2, h => by
    have h' : (finP m ps ρ)[i]? = some s := by cases b <;> (unfold finP at h; simpa using h)
    have := finP_get (m := m) (ps := ps) (ρ := ρ) (i := i) (by simpa using h1) (by simpa using h2) h'
    simpa using this
section
variable {R : RE} {e : En} {F H : Hp}
theorem Bag.more {B : Bg} (h : Bag R e F H B) : ∀ {C : Bg}, (∀ p ∈ C, adr p.1 p.2 = none ∧ SlR R F H p.1 p.2) → Bag R e F H (B ++ C) := by
  intro C
  induction C generalizing B with
  | nil => intro _; rw [List.append_nil]; exact h
  | cons p C ih =>
    intro hc
    have h1 : Bag R e F H (B ++ [p]) := by
      obtain ⟨s, o⟩ := p
      obtain ⟨n, q⟩ := hc _ List.mem_cons_self
      exact h.push q n
    have := ih h1 fun q hq => hc q (List.mem_cons_of_mem _ hq)
    rw [List.append_assoc] at this
    exact this
/-- the masked parameters frozen -/
theorem Bag.prep {vs : List (Option V)} : ∀ {m : List Bool} {as : List Sl} {F : Hp} {B : Bg} {us : List (Option V)}, as.length = us.length → Bag R e F H (B ++ as.zip us) → ∃ F', Sub F F' ∧ Bag R e F' H (B ++ (prepP m as).zip us)
  | [], as, F, B, us, _, h => ⟨F, .refl, by unfold prepP; exact h⟩
  | true :: m, [], F, B, us, _, h => ⟨F, .refl, by unfold prepP; exact h⟩
  | false :: m, [], F, B, us, _, h => ⟨F, .refl, by unfold prepP; exact h⟩
  | b :: m, s :: ss, F, B, [], l, h => by cases l
  | false :: m, s :: ss, F, B, u :: us, l, h => by
    rw [List.zip_cons_cons] at h
    have h' : Bag R e F H (B ++ [(s, u)] ++ ss.zip us) := by rw [List.append_assoc]; exact h
    obtain ⟨F', sf, q⟩ := Bag.prep (vs := vs) (m := m) (by simpa using l) h'
    refine ⟨F', sf, ?_⟩
    unfold prepP
    rw [List.zip_cons_cons]
    rw [List.append_assoc] at q
    exact q
  | true :: m, s :: ss, F, B, u :: us, l, h => by
    rw [List.zip_cons_cons] at h
    have h' : Bag R e F H (B ++ [(s, u)] ++ ss.zip us) := by rw [List.append_assoc]; exact h
    obtain ⟨F', sf, q⟩ := Bag.prep (vs := vs) (m := m) (by simpa using l) h'
    have g : (B ++ [(s, u)] ++ (prepP m ss).zip us)[B.length]? = some (s, u) := by rw [List.append_assoc]; exact app_mid
    have eS : ∀ t : Sl, (B ++ [(s, u)] ++ (prepP m ss).zip us).set B.length (t, u) = B ++ (t, u) :: (prepP m ss).zip us := fun t => by
      rw [List.append_assoc, List.set_append_right _ _ (Nat.le_refl _), Nat.sub_self]; rfl
    unfold prepP
    rw [List.zip_cons_cons]
    cases s with
    | fz p => exact ⟨F', sf, by rw [List.append_assoc] at q; exact q⟩
    | own xs =>
      obtain ⟨F2, s2, q2⟩ := q.freeze g
      rw [eS] at q2
      exact ⟨F2, sf.trans s2, q2⟩
    | _ =>
      have q2 := q.put g (t := .un) trivial (fun _ z => nomatch z)
      rw [eS] at q2
      exact ⟨F', sf, q2⟩
end
theorem prepP_masked : ∀ {m : List Bool} {as : List Sl} {i : Nat} {s : Sl}, m[i]? = some true → (prepP m as)[i]? = some s → s = .un ∨ ∃ p, s = .fz p
  | [], _, _, _, h, _ => by simp at h
  | b :: m, [], _, _, _, h => by cases b <;> (unfold prepP at h; simp at h)
  | b :: m, t :: as, 0, s, h1, h2 => by
    simp at h1; subst h1
    unfold prepP at h2
    simp at h2
    subst h2
    cases valOf t with
    | none => exact .inl rfl
    | some p => exact .inr ⟨p, rfl⟩
  | b :: m, t :: as, i + 1, s, h1, h2 => by
    have h2' : (prepP m as)[i]? = some s := by cases b <;> (unfold prepP at h2; simpa using h2)
    exact prepP_masked (m := m) (by simpa using h1) h2'
def tmpsP (ps : List Sl) : List Sl := ps.map fun s => match s with
  | .fz p => .fz p
  | _ => .un
section
variable {P : Program} {w : World} {K : PySem.W.Frag} {mg : Str → Option Value} {base : Heap} {R : RE}
/-- THE RULE for a def: its body told by a function -/
theorem fn_pl {x qual : Str} {st : Stmt} {f : Addr} {fd : FuncData} {N ps : List Str} {k : Nat} {rs : List Bool} {body : PSF} {pr : List Nat} (F : Fun K x qual st f fd) (S : FnScope N ps (defScope st)) (hn : rs.length = ps.length) (hN : ps.length ≤ N.length)
    (hp : ∀ i : Nat, rs[i]? = some false → i ∈ pr)
    (hb : ∀ (cdv : Value) (A : Around) (outer : List Env) (s : Shared) (H : Hp) (E : XK), Room k (A.deeper (envOfC qual (defScope st) s.heap.objs.size f cdv)) → SSv (cxOf CX0 P w K mg base N qual (defScope st) f cdv A outer s H E).nox R pr (defBody st) body)
    (lb : ∀ ρ r ρ', body ρ = some (r, ρ') → ρ'.length = ρ.length) : FnP P w K mg base R (k + 1) f fd ps (fnF N.length rs body) := by
  have key : ∀ {as : List Sl} {r : Vl} {as' : List Sl}, fnF N.length rs body as = some (r, as') → ∃ fl ρ', body (prepP rs as ++ List.replicate (N.length - rs.length) .un) = some (fl, ρ') ∧ as' = finP rs (prepP rs as) ρ' ∧ ((fl = .rt r) ∨ (fl = .nx ∧ r = .fz .non)) := by
    intro as r as' q
    unfold fnF at q
    rw [Option.bind_eq_some_iff] at q
    obtain ⟨⟨fl, ρ'⟩, h1, q⟩ := q
    cases fl with
    | rt v => cases q; exact ⟨_, _, h1, rfl, .inl rfl⟩
    | nx => cases q; exact ⟨_, _, h1, rfl, .inr ⟨rfl, rfl⟩⟩
    | bk => cases q
    | ct => cases q
  have flen : ∀ (as : List Sl) (r : Vl) (as' : List Sl), as.length = ps.length → fnF N.length rs body as = some (r, as') → as'.length = as.length := fun as r as' la q => by
    obtain ⟨fl, ρ', h1, rfl, _⟩ := key q
    have l1 := lb _ _ _ h1
    rw [List.length_append, prepP_len, List.length_replicate] at l1
    rw [finP_len _ _ _ (by rw [prepP_len]; omega) (by rw [prepP_len]; omega), prepP_len]
  have q : FnOk P w K mg base CX0 (k + 1) f fd ps (spF R ps.length (fnF N.length rs body)) := F.ok S (fun vs H Q E h => h.1) fun cdv A outer s H vs Q E hr h => by
    obtain ⟨lv, F0, as, r, as', la, ⟨e0, hb0⟩, hf, kk⟩ := h
    obtain ⟨fl, ρ', h1, rfl, hfl⟩ := key hf
    refine ⟨_, (hb cdv A outer s H E hr).ps, ?_⟩
    have B0 := hb0.enter
    obtain ⟨F1, _, B1⟩ := Bag.prep (vs := []) (m := rs) (as := as) (B := []) (us := vs.map some) (by rw [List.length_map]; omega) (by rw [List.nil_append]; exact B0)
    rw [List.nil_append] at B1
    have lP : (prepP rs as).length = ps.length := by rw [prepP_len]; exact la
    have B2 := B1.more (C := (tmpsP (prepP rs as)).zip (vs.map some)) fun p hp => by
      obtain ⟨i, hi⟩ := List.getElem?_of_mem hp
      obtain ⟨s, o⟩ := p
      obtain ⟨gs, go⟩ := List.getElem?_zip_eq_some.mp hi
      unfold tmpsP at gs
      rw [List.getElem?_map, Option.map_eq_some_iff] at gs
      obtain ⟨t, ht, rfl⟩ := gs
      cases t with
      | fz p =>
        refine ⟨rfl, ?_⟩
        exact B1.mem (p := (.fz p, o)) (List.mem_of_getElem? (i := i) (List.getElem?_zip_eq_some.mpr ⟨ht, go⟩))
      | _ => exact ⟨rfl, trivial⟩
    have B3 := B2.more (C := (List.replicate (N.length - rs.length) Sl.un).zip (List.replicate (N.length - vs.length) none)) fun p hp => by
      obtain ⟨s, o⟩ := p
      obtain ⟨h1, h2⟩ := List.of_mem_zip hp
      obtain rfl := List.eq_of_mem_replicate h1
      exact ⟨rfl, trivial⟩
    have B4 : Bag R ⟨H, F0, lentOf (as.zip (vs.map some))⟩ F1 H ((prepP rs as ++ List.replicate (N.length - rs.length) Sl.un).zip (L2.start N vs) ++ (tmpsP (prepP rs as)).zip (vs.map some)) := by
      unfold L2.start
      rw [List.zip_append (by rw [List.length_map]; omega)]
      refine B3.perm ?_
      rw [List.append_assoc, List.append_assoc]
      exact (List.Perm.refl _).append List.perm_append_comm
    refine ⟨_, F1, _, _, fl, ρ', by unfold L2.start; simp only [List.length_append, List.length_replicate, List.length_map]; omega, B4, h1, ?_⟩
    have l1 := lb _ _ _ h1
    rw [List.length_append, lP, List.length_replicate] at l1
    have fin : ∀ (σ' : L2.St) (H' F' : Hp) (x : V) (v : Vl), σ'.length = (L2.start N vs).length → (∀ i ∈ pr, σ'[i]? = (L2.start N vs)[i]?) →
        Bag R ⟨H, F0, lentOf (as.zip (vs.map some))⟩ F' H' (ρ'.zip σ' ++ (tmpsP (prepP rs as)).zip (vs.map some) ++ [(v.sl, some x)]) →
        Bag R ⟨H, F0, lentOf (as.zip (vs.map some))⟩ F' H' ((finP rs (prepP rs as) ρ').zip (vs.map some) ++ [(v.sl, some x)]) := by
      intro σ' H' F' x v ls hp' B
      have lfin : (finP rs (prepP rs as) ρ').length = ps.length := by rw [finP_len _ _ _ (by omega) (by omega), lP]
      have lst : (L2.start N vs).length = N.length := by unfold L2.start; simp only [List.length_append, List.length_replicate, List.length_map]; omega
      have B5 : Bag R ⟨H, F0, lentOf (as.zip (vs.map some))⟩ F' H' ((ρ'.zip σ').take ps.length ++ [(v.sl, some x)]) := B.sublist (by
        rw [List.append_assoc]
        exact (List.take_sublist _ _).append (List.sublist_append_right _ _))
      have lt : ((ρ'.zip σ').take ps.length).length = ps.length := by rw [List.length_take, List.length_zip]; omega
      have lz : ((finP rs (prepP rs as) ρ').zip (vs.map some)).length = ps.length := by rw [List.length_zip, List.length_map]; omega
      refine B5.repl fun i p g => ?_
      by_cases hi : i < ps.length
      · rw [List.getElem?_append_left (by omega)] at g
        obtain ⟨s, o⟩ := p
        obtain ⟨gs, go⟩ := List.getElem?_zip_eq_some.mp g
        rw [List.getElem?_map, List.getElem?_eq_getElem (by omega : i < vs.length)] at go
        obtain rfl : some (vs[i]'(by omega)) = o := by simpa using go
        rcases finP_get (by omega) (by omega) gs with ⟨hm, hs⟩ | ⟨hm, hs⟩
        · refine .inr ?_
          rcases prepP_masked hm hs with rfl | ⟨p, rfl⟩
          · exact ⟨rfl, trivial⟩
          · refine ⟨rfl, ?_⟩
            have := B.mem (p := (.fz p, some (vs[i]'(by omega)))) (List.mem_append_left _ (List.mem_append_right _ (List.mem_of_getElem? (i := i) (List.getElem?_zip_eq_some.mpr ⟨?_, ?_⟩))))
            · exact this
            · unfold tmpsP
              rw [List.getElem?_map, hs]; rfl
            · rw [List.getElem?_map, List.getElem?_eq_getElem (by omega : i < vs.length)]; rfl
        · refine .inl ?_
          rw [List.getElem?_append_left (by omega), List.getElem?_take_of_lt hi]
          refine List.getElem?_zip_eq_some.mpr ⟨hs, ?_⟩
          rw [hp' i (hp i hm)]
          unfold L2.start
          rw [List.getElem?_append_left (by rw [List.length_map]; omega), List.getElem?_map, List.getElem?_eq_getElem (by omega : i < vs.length)]; rfl
      · refine .inl ?_
        rw [List.getElem?_append_right (by omega), lz] at g
        rw [List.getElem?_append_right (by omega), lt]
        exact g
    intro σ' H' F' ls hp'
    rcases hfl with rfl | ⟨rfl, rfl⟩
    · intro x B
      exact kk x H' F' (fin σ' H' F' x r ls hp' B)
    · intro B
      exact kk .non H' F' (fin σ' H' F' .non (.fz .non) ls hp' (B.push (s := .fz .non) ⟨_, rfl, .non⟩ rfl))
  exact ⟨flen, q⟩
end
end PL
set_option Elab.async false
set_option linter.all false
set_option maxRecDepth 100000
set_option maxHeartbeats 4000000
/-! PLm: attributes written, methods, globals. -/
namespace PL
open PySem PySem.Spec PyProof.Rows L2

def tgFld (K : PySem.W.Frag) (ta : TE) (f : Str) : TG := fun v σ H Q => ta σ H fun x H1 => ∃ (a C dx : Addr) (fs : List (Str × V)), x = .ref a ∧ H1 a = some (.ins C dx fs) ∧ Cls K C ∧ NoAttr K C f ∧ fs.length < 1000 ∧ Q σ (upd H1 a (.ins C dx (putF f v fs)))
theorem pg_fld {X : Cx} {o : Expr} {f : Str} {p : Pos} {ta : TE} (h : PE X o ta) : PG X (.Attribute o f p) (tgFld X.K ta f) := by
  refine ⟨fun pins s σ H v u Q I r q => ?_⟩
  rw [assign]
  refine wpAny_bind (wpAny_holding (wpAny_mono (h.run pins s σ H _ I q) (fun ov s1 z => ?_) fun e s1 z => z))
  obtain ⟨w, H1, I1, rw, a, C, dx, fs, rfl, g, cl, na, l, k⟩ := z
  cases rw
  refine wpAny_bind (wpAny_standAt ?_)
  refine wpAny_bind (wpAny_holding ?_)
  refine setattr_ok I1 g cl na l r fun s2 I2 => ?_
  exact wpAny_release ⟨_, _, I2, k⟩
theorem putF_new {f : Str} {v : V} : ∀ {fs : List (Str × V)}, (∀ q ∈ fs, q.1 ≠ f) → putF f v fs = fs ++ [(f, v)]
  | [], _ => by simp [putF]
  | q :: fs, h => by
    have h1 : q.1 ≠ f := h q List.mem_cons_self
    obtain ⟨a, b⟩ := q
    have h2 : putF f v fs = fs ++ [(f, v)] := putF_new fun q hq => h q (List.mem_cons_of_mem _ hq)
    show putF f v ((a, b) :: fs) = _
    unfold putF
    rw [if_neg h1, h2]; rfl
/-- targets that may write the heap -/
def TGw (R : RE) (ws : List Nat) (g : PGF) : TG := fun v σ H Q => ∃ (e : En) (F : Hp) (ρ : List Sl) (tm : Bg) (p : PV) (ρ' : List Sl), ρ.length = σ.length ∧ Bag R e F H (ρ.zip σ ++ tm) ∧ Rp R F p v ∧ g p ρ = some ρ' ∧
  ∀ σ' H', σ'.length = σ.length → (∀ j, j ∉ ws → σ'[j]? = σ[j]?) → Bag R e F H' (ρ'.zip σ' ++ tm) → Q σ' H'
def TGsw (R : RE) (ws : List Nat) (g : PGFs) : TGs := fun vs σ H Q => ∃ (e : En) (F : Hp) (ρ : List Sl) (tm : Bg) (ps : List PV) (ρ' : List Sl), ρ.length = σ.length ∧ Bag R e F H (ρ.zip σ ++ tm) ∧ RpL R F ps vs ∧ g ps ρ = some ρ' ∧
  ∀ σ' H', σ'.length = σ.length → (∀ j, j ∉ ws → σ'[j]? = σ[j]?) → Bag R e F H' (ρ'.zip σ' ++ tm) → Q σ' H'
structure Gw (X : Cx) (R : RE) (t : Expr) (ws : List Nat) (g : PGF) : Prop where
  len : ∀ p ρ ρ', g p ρ = some ρ' → ρ'.length = ρ.length
  pg : PG X t (TGw R ws g)
structure Gsw (X : Cx) (R : RE) (t : List Expr) (ws : List Nat) (g : PGFs) : Prop where
  len : ∀ p ρ ρ', g p ρ = some ρ' → ρ'.length = ρ.length
  pgs : PGs X t (TGsw R ws g)
/-- self.f at place i, its n-th field -/
def gFld (i c n : Nat) : PGF := fun p ρ => match ρ[i]? with
  | some (.obj c' zs) => if c' = c ∧ zs.length = n then some (ρ.set i (.obj c (zs ++ [p]))) else none
  | _ => none
section
variable {X : Cx} {R : RE} {pos : Pos}
theorem Gv.w {t : Expr} {ws : List Nat} {g : PGF} (h : Gv X R t ws g) : Gw X R t ws g := ⟨h.len, pg_mono h.pg fun v σ H Q ⟨e, F, ρ, tm, p, ρ', hl, hB, hr, hg, k⟩ => ⟨e, F, ρ, tm, p, ρ', hl, hB, hr, hg, fun σ' l' k' B' => k σ' H l' k' B'⟩⟩
theorem gw_fld {i c n : Nat} {x f : Str} {px : Pos} (hK : R.K = X.K) (hN : X.N[i]? = some x) (hv : Vis X.env.scope x) (hf : (R.fl c)[n]? = some f) (nd : (R.fl c).Nodup) (cl : Cls R.K (R.cl c)) (na : NoAttr R.K (R.cl c) f) (hn : n < 1000) (hd : (x == ("__debug__" : Str)) = false := by decide) (hcd : (x == ("__classdict__" : Str)) = false := by decide) :
    Gw X R (.Attribute (.Name x px) f pos) [] (gFld i c n) := by
  have key : ∀ {p : PV} {ρ ρ' : List Sl}, gFld i c n p ρ = some ρ' → ∃ zs, ρ[i]? = some (.obj c zs) ∧ zs.length = n ∧ ρ' = ρ.set i (.obj c (zs ++ [p])) := by
    intro p ρ ρ' h
    unfold gFld at h
    split at h
    · rename_i c' zs g
      split at h
      · rename_i cc
        cases h
        obtain ⟨rfl, l⟩ := cc
        exact ⟨zs, g, l, rfl⟩
      · cases h
    · cases h
  refine ⟨fun p ρ ρ' h => ?_, pg_mono (pg_fld (pe_var hN hv hd hcd)) fun v σ H Q h => ?_⟩
  · obtain ⟨zs, _, _, rfl⟩ := key h
    rw [List.length_set]
  · obtain ⟨e, F, ρ, tm, p, ρ', hl, hB, hr, hg, k⟩ := h
    obtain ⟨zs, g, lz, rfl⟩ := key hg
    obtain ⟨o, h2, h3, h4⟩ := slot_some hB hl g
    obtain ⟨a, dx, vs, rfl, h5, h6, l6, h7⟩ := h4
    have lv := h7.length
    have ln : n < (R.fl c).length := (List.getElem?_eq_some_iff.mp hf).1
    rw [hK] at cl na
    refine ⟨_, h2, a, R.cl c, dx, _, rfl, h6, cl, na, by rw [List.length_zip, List.length_take]; omega, ?_⟩
    have e1 : putF f v (((R.fl c).take zs.length).zip vs) = ((R.fl c).take (zs ++ [p]).length).zip (vs ++ [v]) := by
      rw [putF_new, List.length_append, List.length_singleton, lz, List.take_add_one, hf, Option.toList_some, List.zip_append (by rw [List.length_take]; omega)]
      · rfl
      · rintro ⟨q1, q2⟩ hq rfl
        have hq1 := (List.of_mem_zip hq).1
        rw [lz] at hq1
        obtain ⟨j, hj⟩ := List.getElem?_of_mem hq1
        have hjn : j < n := by
          have := (List.getElem?_eq_some_iff.mp hj).1
          rw [List.length_take] at this; omega
        rw [List.getElem?_take_of_lt hjn] at hj
        have e2 := (List.getElem?_inj (by omega) nd).mp (hj.trans hf.symm)
        omega
    rw [e1]
    have hB2 := hB.write (i := i) (s := .obj c zs) (t := .obj c (zs ++ [p])) (o := .ins (R.cl c) dx (((R.fl c).take (zs ++ [p]).length).zip (vs ++ [v]))) (app_get' (zip_get g h2)) rfl rfl ⟨a, dx, vs ++ [v], rfl, h5, upd_same, by rw [List.length_append, List.length_singleton]; omega, h7.append (.cons hr .nil)⟩
    refine k σ _ rfl (fun _ _ => rfl) ?_
    rw [zip_set h2, ← app_set (zip_lt (List.getElem?_eq_some_iff.mp g).1 hl)]
    exact hB2
theorem gsw_nil : Gsw X R [] [] gsNil := ⟨gsv_nil (X := X) (R := R) |>.len, pgs_mono (gsv_nil (X := X) (R := R)).pgs fun v σ H Q ⟨e, F, ρ, tm, p, ρ', hl, hB, hr, hg, k⟩ => ⟨e, F, ρ, tm, p, ρ', hl, hB, hr, hg, fun σ' l' k' B' => k σ' H l' k' B'⟩⟩
theorem gsw_cons {t : Expr} {ts : List Expr} {ws vs : List Nat} {g : PGF} {gs : PGFs} (h1 : Gw X R t ws g) (h2 : Gsw X R ts vs gs) (hs : (assignEach (t :: ts) X.env).map (·.2) = assign t X.env :: (assignEach ts X.env).map (·.2) := by rfl) : Gsw X R (t :: ts) (ws ++ vs) (gsCons g gs) := by
  have key : ∀ {ps : List PV} {ρ ρ' : List Sl}, gsCons g gs ps ρ = some ρ' → ∃ p r ρ1, ps = p :: r ∧ g p ρ = some ρ1 ∧ gs r ρ1 = some ρ' := by
    intro ps ρ ρ' h
    unfold gsCons at h
    split at h
    · rename_i p r
      rw [Option.bind_eq_some_iff] at h
      obtain ⟨ρ1, q1, q2⟩ := h
      exact ⟨p, r, ρ1, rfl, q1, q2⟩
    · cases h
  refine ⟨fun p ρ ρ' h => ?_, pgs_mono (pgs_cons h1.pg h2.pgs hs) fun v σ H Q h => ?_⟩
  · obtain ⟨p, r, ρ1, _, q1, q2⟩ := key h
    exact (h2.len _ _ _ q2).trans (h1.len _ _ _ q1)
  · obtain ⟨e, F, ρ, tm, ps, ρ', hl, hB, hr, hg, k⟩ := h
    obtain ⟨p, r, ρ1, rfl, q1, q2⟩ := key hg
    cases hr with
    | @cons _ _ v1 vr r1 r2 =>
      refine ⟨v1, vr, rfl, e, F, ρ, tm, p, ρ1, hl, hB, r1, q1, fun σ1 H1 l1 k1 B1 => ?_⟩
      refine ⟨e, F, ρ1, tm, r, ρ', by have := h1.len _ _ _ q1; omega, B1, r2, q2, fun σ2 H2 l2 k2 B2 => k σ2 H2 (l2.trans l1) (fun j hj => ?_) B2⟩
      rw [List.mem_append, not_or] at hj
      rw [k2 j hj.2, k1 j hj.1]
theorem gw_tup {es : List Expr} {ws : List Nat} {gs : PGFs} {k n : Nat} (hK : R.K = X.K) (hc : X.calm = true) (h : Gsw X R es ws gs) (ln : ∀ ps ρ ρ', gs ps ρ = some ρ' → ps.length = n) (hn : (assignEach es X.env).length = n := by rfl) (hst : (assignEach es X.env).findIdx? (·.1) = none := by rfl) :
    Gw X R (.Tuple es k pos) ws (gTp gs) := by
  refine ⟨fun p ρ ρ' q => ?_, pg_mono (pg_tup hc h.pgs hn hst) fun v σ H Q q => ?_⟩
  · unfold gTp at q
    split at q
    · exact h.len _ _ _ q
    · cases q
  · obtain ⟨e, F, ρ, tm, p, ρ', hl, hB, hr, hg, k⟩ := q
    unfold gTp at hg
    split at hg
    · rename_i ps
      cases hr with
      | tup q r =>
        have l := ln _ _ _ hg
        rw [hK] at q
        exact ⟨_, _, rfl, (hB.sub.sqT q.sq), by rw [← r.length]; exact l, e, F, ρ, tm, ps, ρ', hl, hB, r, hg, k⟩
    · cases hg
end
section
variable {X : Cx} {R : RE} {pr : List Nat} {a t : Expr} {fa : PF} {g : PGF} {ws : List Nat} {pos : Pos}
theorem sv_asgW (h : Ev X R a fa) (hg : Gw X R t ws g) (hp : ∀ i ∈ pr, i ∉ ws) (hs : swapsWithSole [t] a pos.line X.env = pure false := by rfl) (hw : swappedStores [t] a X.env = pure none := by rfl)
    (h1 : (assignEach [t] X.env).map (·.2) = [assign t X.env] := by rfl) : Sv X R pr (.Assign [t] a pos) (sAsg fa g) := by
  refine ⟨fun ρ r ρ' q => ?_, ps_mono (ps_asg h.pe hg.pg hs hw h1) fun D σ H q => ?_⟩
  · obtain ⟨r, ρ1, p, q1, q2, q3, _⟩ := sAsg_some q
    exact (hg.len _ _ _ q3).trans (h.len _ _ _ q1)
  · obtain ⟨e, F, ρ, tm, fl, ρ', hl, hB, hf, k⟩ := q
    obtain ⟨r, ρ1, p, q1, q2, q3, rfl⟩ := sAsg_some hf
    have l1 := h.len _ _ _ q1
    refine ⟨e, F, ρ, tm, r, ρ1, hl, hB, q1, fun x H1 F1 B1 _ => ?_⟩
    obtain ⟨F2, s2, B2, rp⟩ := B1.val q2
    exact ⟨e, F2, ρ1, tm, p, ρ', by omega, B2, rp, q3, fun σ' H' l' k' B' => k σ' H' F2 l' (fun i hi => k' i (hp i hi)) B'⟩
/-- a global whose value is the same in every heap -/
theorem ev_glob {x : Str} {v : V} {u : Value} {p : PV} (hg : Gl X x) (hm : X.mg x = some u) (rv : L2.RelV v u) (r : ∀ F, Rp R F p v) (hd : (x == ("__debug__" : Str)) = false := by decide) : Ev X R (.Name x pos) (eC p) := ev_c (pe_glob hg hm rv hd) r
end

/-! ### methods -/
/-- o.m(..) of an instance of class c -/
def eMeth (c : Nat) (f : FP) (fa : PF) (fs : PFs) : PF := fun ρ => (fa ρ).bind fun x => match x.1 with
  | .fz (.ins c' zs) => if c' = c then (fs x.2).bind fun y => (f (.fz (.ins c zs) :: y.1.map tmpOf)).bind fun z => match z.2 with
    | _ :: ss => some (z.1.sl, putB y.1 ss y.2)
    | [] => none
    else none
  | _ => none
section
variable {X : Cx} {R : RE} {o a : Expr} {es : List Expr} {fa : PF} {fs : PFs} {pos apos : Pos} {k : Nat} {f : Addr} {fd : FuncData} {ps : List Str} {fn : FP} {m : Str} {c : Nat}
theorem eMeth_some {ρ ρ' : List Sl} {r : Sl} (q : eMeth c fn fa fs ρ = some (r, ρ')) : ∃ zs ρ1 rs ρ2 v s0 ss, fa ρ = some (.fz (.ins c zs), ρ1) ∧ fs ρ1 = some (rs, ρ2) ∧ fn (.fz (.ins c zs) :: rs.map tmpOf) = some (v, s0 :: ss) ∧ r = v.sl ∧ ρ' = putB rs ss ρ2 := by
  unfold eMeth at q
  rw [Option.bind_eq_some_iff] at q
  obtain ⟨⟨r1, ρ1⟩, h1, q⟩ := q
  split at q
  · rename_i c' zs e1
    dsimp only at e1 q
    subst e1
    split at q
    · rename_i ec
      subst ec
      rw [Option.bind_eq_some_iff] at q
      obtain ⟨⟨rs, ρ2⟩, h2, q⟩ := q
      rw [Option.bind_eq_some_iff] at q
      obtain ⟨⟨v, ss⟩, h3, q⟩ := q
      split at q
      · rename_i s0 ss' e2
        dsimp only at e2
        subst e2
        cases q
        exact ⟨zs, ρ1, rs, ρ2, v, s0, ss', h1, h2, h3, rfl, rfl⟩
      · cases q
    · cases q
  · cases q
theorem Rp.ins_of {R : RE} {F : Hp} {c : Nat} {xs : List PV} {y : V} (h : Rp R F (.ins c xs) y) : ∃ (ad dx : Addr) (vs : List V), y = .ref ad ∧ F ad = some (.ins (R.cl c) dx ((R.fl c).zip vs)) ∧ vs.length = (R.fl c).length ∧ RpL R F xs vs := by
  cases h with
  | ins q l r => exact ⟨_, _, _, rfl, q, l, r⟩
theorem lookup_mem {m : Str} {w : V} : ∀ {fs : List Str} {vs : List V}, List.lookup m (fs.zip vs) = some w → m ∈ fs
  | [], _, h => by cases h
  | _ :: _, [], h => by cases h
  | a :: fs, b :: vs, h => by
    rw [List.zip_cons_cons, List.lookup_cons] at h
    split at h
    · rename_i e
      rw [eq_of_beq e]; exact List.mem_cons_self
    · exact List.mem_cons_of_mem _ (lookup_mem h)
/-- what both ways of calling need -/
theorem meth_core {e : En} {F1 H1 : Hp} {ρ1 : List Sl} {σ : L2.St} {tm : Bg} {rs ss : List Sl} {xs : List V} {v : Vl} {n : Nat} {Q : VK} {E : XK} {zs : List PV} {s0 : Sl} {y : V} (lf : ∀ as r as', as.length = n → fn as = some (r, as') → as'.length = as.length) (hn : rs.length + 1 = n) (hl : ρ1.length = σ.length)
    (B1 : Bag R e F1 H1 (ρ1.zip σ ++ tm ++ (rs.map tmpOf).zip (xs.map some))) (ry : Rp R F1 (.ins c zs) y) (k1 : Paired (fun r x => PkOk r σ x) rs xs) (h2 : fn (.fz (.ins c zs) :: rs.map tmpOf) = some (v, s0 :: ss))
    (kk : ∀ z H' F', Bag R e F' H' ((putB rs ss ρ1).zip σ ++ tm ++ [(v.sl, some z)]) → Q z H') : spF R n fn (y :: xs) H1 Q E := by
  have lx := Paired.len k1
  have e1 : (Sl.fz (.ins c zs) :: rs.map tmpOf).zip ((y :: xs).map some) = (.fz (.ins c zs), some y) :: (rs.map tmpOf).zip (xs.map some) := rfl
  have B2 : Bag R e F1 H1 (ρ1.zip σ ++ tm ++ ((Sl.fz (.ins c zs) :: rs.map tmpOf).zip ((y :: xs).map some))) := by
    rw [e1]
    refine (B1.push_fz ry).perm ?_
    rw [List.append_assoc (ρ1.zip σ ++ tm)]
    exact (List.Perm.refl _).append (List.perm_append_singleton _ _)
  refine ⟨by rw [List.length_cons]; omega, F1, .fz (.ins c zs) :: rs.map tmpOf, v, s0 :: ss, by simpa using hn, ⟨_, B2.sublist (List.sublist_append_right _ _)⟩, h2, fun z H' F' B' => kk z H' F' ?_⟩
  have ls := lf _ _ _ (by simpa using hn) h2
  simp only [List.length_cons, List.length_map] at ls
  have B3 := B2.leave B'
  have e2 : (s0 :: ss).zip ((y :: xs).map some) = (s0, some y) :: ss.zip (xs.map some) := rfl
  rw [e2, List.cons_append] at B3
  exact Bag.home (C := [(v.sl, some z)]) (by omega) hl k1 B3.drop_mid
theorem ev_meth (hK : R.K = X.K) (ho : Ev X R o fa) (cl : Cls X.K (R.cl c)) (hm : Meth X.K (R.cl c) m f) (nf : m ∉ R.fl c) (hf : FnP X.prog X.w X.K X.mg X.base R k f fd ps fn) (hr : Room k X.A) (hb : Binds X.K fd ps []) (ha : Av X R (a :: es) fs) (hn : (a :: es).length + 1 = ps.length := by rfl)
    (he : starEach (a :: es) X.env = (false, eval a X.env) :: starEach es X.env := by rfl) (hpl : (backTo pos (starEach es X.env)).any (·.1) = false := by rfl)
    {pl : Sem Bool} (hev : eval (.Call (.Attribute o m apos) (a :: es) [] pos) X.env = (do
                              let ov ← eval o X.env
                              standAt apos.atName
                              let __x ← holding [ov] (getMethod ov m pl)
                              match __x with
                                | (f, first) =>
                                  callWith pos f first (backTo pos (starEach (a :: es) X.env))
                                    (backToKw pos (keywordEach [] X.env))) := by rfl) :
    Ev X R (.Call (.Attribute o m apos) (a :: es) [] pos) (eMeth c fn fa fs) := by
  refine ⟨fun ρ r ρ' q => ?_, pe_mono (pe_meth ho.pe cl hm hf.ok hr hb .nil pass0 ha.pa he hpl hev) fun σ H Q h => ?_⟩
  · obtain ⟨zs, ρ1, rs, ρ2, v, s0, ss, h1, h2, h3, _, rfl⟩ := eMeth_some q
    rw [putB_len]; exact (ha.len _ _ _ h2).trans (ho.len _ _ _ h1)
  · obtain ⟨e, F, ρ, tm, r, ρ', hl, hB, hf', kk⟩ := h
    obtain ⟨zs, ρ1, rs, ρ2, v, s0, ss, h1, h2, h3, rfl, rfl⟩ := eMeth_some hf'
    refine ⟨e, F, ρ, tm, _, ρ1, hl, hB, h1, fun x H1 F1 B1 k1 => ?_⟩
    have l1 := ho.len _ _ _ h1
    obtain ⟨y, ey, q⟩ := B1.all _ _ _ app_last
    cases ey
    obtain ⟨ad, dx, vs, ey, q1, l, r⟩ := q.ins_of
    · subst ey
      refine ⟨ad, dx, _, rfl, B1.sub _ _ q1, ?_, e, F1, ρ1, tm ++ [(.fz (.ins c zs), some (.ref ad))], rs, ρ2, by omega, by rw [← List.append_assoc]; exact B1, h2, fun xs H2 F2 B2 k2 => ?_⟩
      · cases hh : List.lookup m ((R.fl c).zip vs) with
        | none => rfl
        | some w => exact absurd (lookup_mem hh) nf
      · show spF R ps.length fn (.ref ad :: (xs ++ [])) H2 Q E0
        rw [List.append_nil]
        have ry : Rp R F2 (.ins c zs) (.ref ad) := by
          obtain ⟨z, ez, rz⟩ := B2.mem (p := (.fz (.ins c zs), some (.ref ad))) (by simp)
          cases ez
          exact rz
        have B3 : Bag R e F2 H2 (ρ2.zip σ ++ tm ++ (rs.map tmpOf).zip (xs.map some)) := B2.sublist (by
          rw [← List.append_assoc (ρ2.zip σ)]
          exact (List.sublist_append_left _ _).append (List.Sublist.refl _))
        exact meth_core hf.len (by have := ha.cnt _ _ _ h2; omega) (by have := ha.len _ _ _ h2; omega) B3 ry k2 h3 fun z H' F' B' => kk z H' F' (by rw [tmp_sl]; exact B') (sl_pk v σ z)
end
end PL
set_option Elab.async false
set_option linter.all false
set_option maxRecDepth 100000
set_option maxHeartbeats 4000000
/-! PLn: the rules as the printed texts use them. -/
namespace PL
open PySem PySem.Spec PyProof.Rows L2
section
variable {X : Cx} {R : RE} {pos : Pos}
theorem vPk (i : Nat) {x : Str} (hN : X.N[i]? = some x := by rfl) (hv : Vis X.env.scope x := by first | exact .inl rfl | exact .inr (.inl rfl) | exact .inr (.inr rfl)) (hd : (x == ("__debug__" : Str)) = false := by decide) (hcd : (x == ("__classdict__" : Str)) = false := by decide) : Ev X R (.Name x pos) (ePk i) := ev_pk hN hv hd hcd
theorem vVar (i : Nat) {x : Str} (hN : X.N[i]? = some x := by rfl) (hv : Vis X.env.scope x := by first | exact .inl rfl | exact .inr (.inl rfl) | exact .inr (.inr rfl)) (hd : (x == ("__debug__" : Str)) = false := by decide) (hcd : (x == ("__classdict__" : Str)) = false := by decide) : Ev X R (.Name x pos) (eVar i) := ev_var hN hv hd hcd
theorem vMv (i : Nat) {x : Str} (hN : X.N[i]? = some x := by rfl) (hv : Vis X.env.scope x := by first | exact .inl rfl | exact .inr (.inl rfl) | exact .inr (.inr rfl)) (hd : (x == ("__debug__" : Str)) = false := by decide) (hcd : (x == ("__classdict__" : Str)) = false := by decide) : Ev X R (.Name x pos) (eMv i) := ev_mv hN hv hd hcd
theorem vBor (i : Nat) {x : Str} (hN : X.N[i]? = some x := by rfl) (hv : Vis X.env.scope x := by first | exact .inl rfl | exact .inr (.inl rfl) | exact .inr (.inr rfl)) (hd : (x == ("__debug__" : Str)) = false := by decide) (hcd : (x == ("__classdict__" : Str)) = false := by decide) : Ev X R (.Name x pos) (eBor i) := ev_bor hN hv hd hcd
/-- a built-in type by its name -/
theorem vTy (t : Ty) {x : Str} (hm : X.mg x = none) (hv : bootBuiltins x = some (.type t.nm)) (hg : Gl X x := by rfl) (hne : x ≠ ("__name__" : Str) := by decide) (hd : (x == ("__debug__" : Str)) = false := by decide) : Ev X R (.Name x pos) (eC (.ty t)) := ev_c (pe_bltn (v := .ty t.nm) hg hm hv rfl hne hd) fun F => .ty t
theorem ev_gc {x : Str} {v : V} {p : PV} (hg : Gl X x) (h : ∃ u, X.mg x = some u ∧ L2.RelV v u) (r : ∀ F, Rp R F p v) (hd : (x == ("__debug__" : Str)) = false := by decide) : Ev X R (.Name x pos) (eC p) := by
  obtain ⟨u, hm, rv⟩ := h
  exact ev_glob hg hm rv r hd
theorem hu64 {k : Nat} {A : Around} (h : Room k A) : A.units + 64 < cLine := by have := h.un; omega
theorem hu65 {k : Nat} {A : Around} (h : Room k A) : A.units + 65 < cLine := by have := h.un; omega
theorem prs_of {rs : List Bool} {pr : List Nat} (h : (List.range rs.length).all (fun i => rs[i]? != some false || pr.contains i) = true) : ∀ i : Nat, rs[i]? = some false → i ∈ pr := fun i q => by
  have hi : i < rs.length := (List.getElem?_eq_some_iff.mp q).1
  have := List.all_eq_true.mp h i (List.mem_range.mpr hi)
  rw [q] at this
  simpa using this
def sh0 : Shared := {}
theorem room_deep {k : Nat} (e : Env) (h : k ≤ 20) : Room k (callerA.deeper e) := by
  have h1 : callerA.depth + 1 + 65 < recursionLimit := by decide
  have h2 : callerA.units + 3 + 520 < cLine := by decide
  refine ⟨rfl, ?_, ?_⟩
  · show callerA.depth + 1 + 3 * k + 5 < recursionLimit
    omega
  · show callerA.units + 3 + 16 * k + 200 < cLine
    omega
theorem fn_pl' {P : Program} {w : World} {K : PySem.W.Frag} {mg : Str → Option Value} {base : Heap} {R : RE} {x qual : Str} {st : Stmt} {f : Addr} {fd : FuncData} {N ps : List Str} {k : Nat} {rs : List Bool} {body : PSF} {pr : List Nat} (F : Fun K x qual st f fd) (S : FnScope N ps (defScope st)) (hn : rs.length = ps.length) (hN : ps.length ≤ N.length)
    (hp : (List.range rs.length).all (fun i => rs[i]? != some false || pr.contains i) = true)
    (hb : ∀ (cdv : Value) (A : Around) (outer : List Env) (s : Shared) (H : Hp) (E : XK), Room k (A.deeper (envOfC qual (defScope st) s.heap.objs.size f cdv)) → SSv (cxOf CX0 P w K mg base N qual (defScope st) f cdv A outer s H E).nox R pr (defBody st) body)
    (hA : k ≤ 20 := by decide) : FnP P w K mg base R (k + 1) f fd ps (fnF N.length rs body) :=
  fn_pl F S hn hN (prs_of hp) hb (hb .none callerA [] sh0 (fun _ => none) (fun _ _ _ => False) (room_deep _ hA)).len
end
end PL
set_option Elab.async false
set_option linter.all false
set_option maxRecDepth 100000
set_option maxHeartbeats 4000000
/-! PLo: min, max, sum, all, any of tuples. -/
namespace PL
open PySem PySem.Spec PyProof.Rows L2

theorem CallOk.or {R : RE} {op op' : List PV → Option Vl} {rd rd' : List V → Hp → VK → Prop} (h : CallOk R op rd) (h' : CallOk R op' rd') : CallOk R (fun ps => match op ps with | some r => some r | none => op' ps) (fun xs H Q => rd xs H Q ∨ rd' xs H Q) := by
  intro e F H B ps xs r Q hB hp ho k
  dsimp only at ho
  cases e1 : op ps with
  | some r' =>
    rw [e1] at ho
    cases ho
    exact .inl (h e F H B ps xs r Q hB hp e1 k)
  | none =>
    rw [e1] at ho
    exact .inr (h' e F H B ps xs r Q hB hp ho k)
theorem vals_ints_get : ∀ {ns : List Int} {its : List Value} {i : Nat} {v : Value}, Vals (ns.map V.int) its → its[i]? = some v → ∃ t, v = .int (ns.getD i 0) t
  | [], _, i, v, .nil, g => by simp at g
  | n :: ns, _, 0, v, .cons r _, g => by
    simp at g
    subst g
    obtain ⟨t, rfl⟩ := r
    exact ⟨t, by simp⟩
  | n :: ns, _, i + 1, v, .cons _ rs, g => by
    obtain ⟨t, e⟩ := vals_ints_get rs (i := i) (by simpa using g)
    exact ⟨t, by simpa using e⟩
theorem vals_len : ∀ {xs : List V} {its : List Value}, Vals xs its → its.length = xs.length
  | _, _, .nil => rfl
  | _, _, .cons _ rs => by rw [List.length_cons, List.length_cons, vals_len rs]
section
variable {X : Cx}
/-- a walk over a tuple that ends in a value -/
theorem tup_walk {pins : List (Addr × Obj)} {σ : L2.St} {H : Hp} {s : Shared} {a : Addr} {ns : List Int} {A : Around} {E : Value → Shared → Prop} {Q : Value → Shared → Prop} (I : L2.Inv X pins σ H s) (hq : SqT X.K H a (ns.map V.int)) (hh : A.handled = none)
    (k : ∀ (its : List Value), Vals (ns.map V.int) its → Walks X.prog X.w A s.heap.objs.size [s.heap.objs.size, a] [s.heap.objs.size] ns.length (fun i v => its[i]? = some v) (fun i h => h.IsTupleIter s.heap.objs.size a i ∧ h.IsTuple a its.toArray) →
      (∀ (h : Heap), (fun i (h : Heap) => h.IsTupleIter s.heap.objs.size a i ∧ h.IsTuple a its.toArray) 0 h → True) →
      (∀ b ∈ [s.heap.objs.size, a], b < (s.heap.push { cls := Value.type "tuple_iterator", data := Data.fields #[Value.ref a, Value.int 0 0] }).objs.size) →
      (s.heap.push { cls := Value.type "tuple_iterator", data := Data.fields #[Value.ref a, Value.int 0 0] }).IsTupleIter s.heap.objs.size a 0 ∧ (s.heap.push { cls := Value.type "tuple_iterator", data := Data.fields #[Value.ref a, Value.int 0 0] }).IsTuple a its.toArray →
      (∀ (h' : Heap) (tk : Nat), (∀ (b : Addr) (o : Obj), b ∉ [s.heap.objs.size] → (s.heap.push { cls := Value.type "tuple_iterator", data := Data.fields #[Value.ref a, Value.int 0 0] }).get? b = some o → h'.get? b = some o) → L2.Inv X pins σ H { heap := h', gens := s.gens, drawn := s.drawn, toks := tk, os := s.os }) →
      Q (.ref s.heap.objs.size) { heap := s.heap.push { cls := Value.type "tuple_iterator", data := Data.fields #[Value.ref a, Value.int 0 0] }, gens := s.gens, drawn := s.drawn, toks := s.toks, os := s.os }) :
    wpAny (model X.prog X.w) A (pyIter (.ref a)) Q E s := by
  obtain ⟨its, rv, p, hz⟩ := I.tuple hq
  have p' : s.heap.IsTuple a its.toArray := p
  refine wpAny_pyIter_tuple p' ?_
  have hlt : a < s.heap.objs.size := by
    obtain ⟨m, hm, _⟩ := p'
    exact Heap.lt_size hm
  have hl := vals_len rv
  rw [List.length_map] at hl
  refine k its rv (by
    have w := Walks.tuple (prog := X.prog) (w := X.w) hh s.heap.objs.size a (Nat.ne_of_lt hlt) its.toArray
    have es : its.toArray.size = ns.length := by simp [hl]
    rw [es] at w
    simpa using w) (fun _ _ => trivial) (fun b hb => ?_) ⟨⟨_, Heap.get?_push_size _ rfl, rfl, rfl⟩, ?_⟩ fun h' tk hk => ?_
  · rw [Heap.size_push]
    simp at hb
    rcases hb with rfl | rfl
    · exact Nat.lt_succ_self _
    · exact Nat.lt_succ_of_lt hlt
  · obtain ⟨m, hm, c⟩ := p'
    exact ⟨m, Heap.get?_push_of_some _ hm, c⟩
  · refine I.kept fun b u hu => hk b u (fun z => ?_) (Heap.get?_push_of_some _ hu)
    simp at z
    subst z
    exact absurd (Heap.lt_size hu) (Nat.lt_irrefl _)
def rMinT (K : PySem.W.Frag) (vs : List V) (H : Hp) (Q : VK) : Prop := ∃ (a : Addr) (ns : List Int), vs = [V.ref a] ∧ SqT K H a (ns.map V.int) ∧ 0 < ns.length ∧ ∀ m, m ∈ ns → (∀ y, y ∈ ns → m ≤ y) → Q (.int m) H
def rMaxT (K : PySem.W.Frag) (vs : List V) (H : Hp) (Q : VK) : Prop := ∃ (a : Addr) (ns : List Int), vs = [V.ref a] ∧ SqT K H a (ns.map V.int) ∧ 0 < ns.length ∧ ∀ m, m ∈ ns → (∀ y, y ∈ ns → y ≤ m) → Q (.int m) H
theorem getD_all {ns : List Int} {P : Int → Prop} (h : ∀ j, j ≤ ns.length - 1 → P (ns.getD j 0)) : ∀ y ∈ ns, P y := fun y hy => by
  obtain ⟨j, hj, rfl⟩ := List.getElem_of_mem hy
  have := h j (by omega)
  rw [List.getD_eq_getElem?_getD, List.getElem?_eq_getElem hj] at this
  exact this
theorem getD_mem {ns : List Int} {j : Nat} (h : j < ns.length) : ns.getD j 0 ∈ ns := by
  rw [List.getD_eq_getElem?_getD, List.getElem?_eq_getElem h]
  exact List.getElem_mem h
theorem cr_minT (hc : X.calm = true) : CallR X (.builtin "min") (rMinT X.K) := by
  intro pins s σ H xs us Q I rv ⟨a, ns, e, hq, hn, k⟩
  subst e
  match us, rv with
  | [_], .cons r .nil =>
    cases r
    refine call_min_walk (tup_walk I hq (I.ok.hd hc) fun its ri w _ hfp hst hI => ?_)
    refine ⟨_, _, _, _, _, _, fun i j => decide (ns.getD i 0 < ns.getD j 0), rfl, w, hst, hfp, hn, CmpOf.ints_lt (fun i => ns.getD i 0) fun i v g => vals_ints_get ri g, fun v h' tk hv hk => ?_⟩
    obtain ⟨t, rfl⟩ := vals_ints_get ri hv
    obtain ⟨hle, hmin⟩ := argBest_lt (fun i => ns.getD i 0) (ns.length - 1)
    exact ⟨.int _, H, hI h' tk hk, ⟨t, rfl⟩, k _ (getD_mem (by omega)) (getD_all hmin)⟩
theorem cr_maxT (hc : X.calm = true) : CallR X (.builtin "max") (rMaxT X.K) := by
  intro pins s σ H xs us Q I rv ⟨a, ns, e, hq, hn, k⟩
  subst e
  match us, rv with
  | [_], .cons r .nil =>
    cases r
    refine call_max_walk (tup_walk I hq (I.ok.hd hc) fun its ri w _ hfp hst hI => ?_)
    refine ⟨_, _, _, _, _, _, fun i j => decide (ns.getD i 0 > ns.getD j 0), rfl, w, hst, hfp, hn, CmpOf.ints_gt (fun i => ns.getD i 0) fun i v g => vals_ints_get ri g, fun v h' tk hv hk => ?_⟩
    obtain ⟨t, rfl⟩ := vals_ints_get ri hv
    obtain ⟨hle, hmax⟩ := argBest_gt (fun i => ns.getD i 0) (ns.length - 1)
    exact ⟨.int _, H, hI h' tk hk, ⟨t, rfl⟩, k _ (getD_mem (by omega)) (getD_all (P := fun y => y ≤ ns.getD (argBest (fun i j => decide (ns.getD i 0 > ns.getD j 0)) (ns.length - 1)) 0) hmax)⟩
end
def clMin2 : List PV → Option Vl := fun ps => match clMin ps with
  | some r => some r
  | none => match ps with
    | [.tup xs] => (intsOf xs).bind fun ns => if ns.isEmpty then none else some (.fz (.int (minL ns)))
    | _ => none
def clMax2 : List PV → Option Vl := fun ps => match clMax ps with
  | some r => some r
  | none => match ps with
    | [.tup xs] => (intsOf xs).bind fun ns => if ns.isEmpty then none else some (.fz (.int (maxL ns)))
    | _ => none
theorem cok_min2 {R : RE} : CallOk R clMin2 (fun xs H Q => ((∃ i j, xs = [.int i, .int j] ∧ Q (.int (if j < i then j else i)) H) ∨ rMin R.K xs H Q) ∨ rMinT R.K xs H Q) := by
  refine cok_min.or (op' := fun ps => match ps with
    | [.tup xs] => (intsOf xs).bind fun ns => if ns.isEmpty then none else some (.fz (.int (minL ns)))
    | _ => none) ?_
  intro e F H B ps xs r Q hB hp ho k
  dsimp only at ho
  split at ho
  · rename_i zs
    rw [Option.bind_eq_some_iff] at ho
    obtain ⟨ns, h1, ho⟩ := ho
    split at ho
    · cases ho
    · rename_i c
      cases ho
      obtain ⟨x, rfl, q⟩ := hp.one
      obtain ⟨a, vs, rfl, h2, r1⟩ := q.tup hB.sub
      rw [intsOf_eq h1] at r1
      rw [r1.ints] at h2
      have hne : ns ≠ [] := fun z => by rw [z] at c; exact c rfl
      refine ⟨a, ns, rfl, h2, by cases ns with | nil => exact absurd rfl hne | cons _ _ => simp, fun m hm hle => ?_⟩
      have em : m = minL ns := by
        have h3 := minL_le hm
        have h4 := hle _ (minL_mem hne)
        omega
      rw [em]
      exact k _ H F (hB.push_fz (.int _))
  · cases ho
theorem cok_max2 {R : RE} : CallOk R clMax2 (fun xs H Q => ((∃ i j, xs = [.int i, .int j] ∧ Q (.int (if j > i then j else i)) H) ∨ rMax R.K xs H Q) ∨ rMaxT R.K xs H Q) := by
  refine cok_max.or (op' := fun ps => match ps with
    | [.tup xs] => (intsOf xs).bind fun ns => if ns.isEmpty then none else some (.fz (.int (maxL ns)))
    | _ => none) ?_
  intro e F H B ps xs r Q hB hp ho k
  dsimp only at ho
  split at ho
  · rename_i zs
    rw [Option.bind_eq_some_iff] at ho
    obtain ⟨ns, h1, ho⟩ := ho
    split at ho
    · cases ho
    · rename_i c
      cases ho
      obtain ⟨x, rfl, q⟩ := hp.one
      obtain ⟨a, vs, rfl, h2, r1⟩ := q.tup hB.sub
      rw [intsOf_eq h1] at r1
      rw [r1.ints] at h2
      have hne : ns ≠ [] := fun z => by rw [z] at c; exact c rfl
      refine ⟨a, ns, rfl, h2, by cases ns with | nil => exact absurd rfl hne | cons _ _ => simp, fun m hm hle => ?_⟩
      have em : m = maxL ns := by
        have h3 := maxL_ge hm
        have h4 := hle _ (maxL_mem hne)
        omega
      rw [em]
      exact k _ H F (hB.push_fz (.int _))
  · cases ho
end PL
set_option Elab.async false
set_option linter.all false
set_option maxRecDepth 100000
set_option maxHeartbeats 4000000
/-! PLp: what the laws' own draws give. -/
namespace PL
open PySem PySem.Spec PyProof.Rows L2
theorem datN_i (n : Nat) (i : Int) : datN n (.int i) = true := by cases n <;> rfl
theorem datN_n (n : Nat) : datN n .non = true := by cases n <;> rfl
theorem datN_b (n : Nat) (b : Bool) : datN n (.bl b) = true := by cases n <;> rfl
theorem datN_l (n : Nat) (xs : List PV) : datN (n + 1) (.lst xs) = datNs n xs := rfl
theorem datN_t (n : Nat) (xs : List PV) : datN (n + 1) (.tup xs) = datNs n xs := rfl
theorem datNs_nil (n : Nat) : datNs n [] = true := by cases n <;> rfl
theorem datNs_cons (n : Nat) (x : PV) (xs : List PV) : datNs n (x :: xs) = (datN n x && datNs n xs) := by rw [datNs]
theorem eqP_ii (i j : Int) : eqP (.int i) (.int j) = (i == j) := by rw [eqP]
theorem eqP_nn : eqP .non .non = true := by rw [eqP]
theorem eqP_bb (a b : Bool) : eqP (.bl a) (.bl b) = (a == b) := by rw [eqP]
theorem eqP_ll (a b : List PV) : eqP (.lst a) (.lst b) = eqPs a b := by rw [eqP]
theorem eqP_tt (a b : List PV) : eqP (.tup a) (.tup b) = eqPs a b := by rw [eqP]
theorem eqPs_nn : eqPs [] [] = true := by rw [eqPs]
theorem eqPs_cc (x y : PV) (xs ys : List PV) : eqPs (x :: xs) (y :: ys) = (eqP x y && eqPs xs ys) := by rw [eqPs]
theorem eqPs_nc (y : PV) (ys : List PV) : eqPs [] (y :: ys) = false := by rw [eqPs] <;> intros <;> simp_all
theorem eqPs_cn (y : PV) (ys : List PV) : eqPs (y :: ys) [] = false := by rw [eqPs] <;> intros <;> simp_all
theorem datNs_Ints' (n : Nat) : ∀ ns : List Int, datNs n (ns.map PV.int) = true
  | [] => datNs_nil n
  | i :: ns => by rw [List.map_cons, datNs_cons, datN_i, datNs_Ints' n ns]; rfl
theorem eqPs_Ints' : ∀ a b : List Int, eqPs (a.map PV.int) (b.map PV.int) = (a == b)
  | [], [] => by simp [eqPs_nn]
  | [], _ :: _ => by rw [List.map_nil, List.map_cons, eqPs_nc]; rfl
  | _ :: _, [] => by rw [List.map_nil, List.map_cons, eqPs_cn]; rfl
  | x :: a, y :: b => by rw [List.map_cons, List.map_cons, eqPs_cc, eqP_ii, eqPs_Ints' a b]; rfl
def F_draw0 : FP := fnF 5 [false, false] (sSeq (sIf (tAndF (tOf (eBin opEq (eBin opIx (ePk 0) (eC (.int 2))) (eC (.int 0)))) (tOf (eBin opLt (eBin opIx (ePk 0) (eC (.int 1))) (eNary clLen (aCons (eBin opIx (ePk 0) (eC (.int 0))) aNil))))) (sSeq (sSet 2 (eBin opIx (eBin opIx (ePk 0) (eC (.int 0))) (eBin opIx (ePk 0) (eC (.int 1))))) (sSeq (sSetIx 0 (eBin opAdd (eBin opIx (ePk 0) (eC (.int 1))) (eC (.int 1))) (eC (.int 1))) (sSeq (sSetIx 0 (eBin opMod (eNary clInt (aCons (eBin opAdd (eBin opAdd (eBin opMul (eBin opIx (ePk 0) (eC (.int 3))) (eC (.int 69621))) (ePk 2)) (eC (.int 29))) aNil)) (eC (.int 2147483629))) (eC (.int 3))) (sIf (tOf (eBin opGe (ePk 2) (eBin opPow (eC (.int 10)) (eC (.int 18))))) (sSetIx 0 (eVar 2) (eC (.int 2))) sNil)))) sNil) (sSeq (sIf (tOf (eBin opGt (eBin opIx (ePk 0) (eC (.int 2))) (eC (.int 0)))) (sSeq (sSet 3 (eBin opMod (eNary clInt (aCons (eBin opIx (ePk 0) (eC (.int 2))) aNil)) (ePk 1))) (sSeq (sSetIx 0 (eBin opFdiv (eBin opIx (ePk 0) (eC (.int 2))) (ePk 1)) (eC (.int 2))) (sRet (eVar 3)))) sNil) (sSeq (sSetIx 0 (eBin opAdd (eBin opIx (ePk 0) (eC (.int 4))) (eC (.int 1))) (eC (.int 4))) (sSeq (sSet 4 (eBin opMod (eNary clInt (aCons (eBin opMul (eNary clInt (aCons (eBin opAdd (eBin opIx (ePk 0) (eC (.int 3))) (eBin opMul (eC (.int 7919)) (eBin opIx (ePk 0) (eC (.int 4))))) aNil)) (eC (.int 48271))) aNil)) (eC (.int 2147483647)))) (sSeq (sSet 4 (eBin opMod (eNary clInt (aCons (eBin opMul (ePk 4) (eBin opAdd (eBin opFdiv (ePk 4) (eC (.int 1009))) (eC (.int 69621)))) aNil)) (eC (.int 2147483647)))) (sSeq (sSet 4 (eBin opMod (eNary clInt (aCons (eBin opMul (ePk 4) (eBin opAdd (eBin opFdiv (ePk 4) (eC (.int 2003))) (eC (.int 40692)))) aNil)) (eC (.int 2147483399)))) (sRet (eBin opMod (eNary clInt (aCons (eBin opFdiv (ePk 4) (eC (.int 16))) aNil)) (ePk 1)))))))))
def Ints (ns : List Int) : List PV := ns.map PV.int
theorem Ints_len (ns : List Int) : (Ints ns).length = ns.length := by unfold Ints; rw [List.length_map]
theorem Ints_get (ns : List Int) (i : Nat) : (Ints ns)[i]? = (ns[i]?).map .int := by unfold Ints; rw [List.getElem?_map]
theorem Ints_mem {ns : List Int} {p : PV} (h : p ∈ Ints ns) : ∃ c, c ∈ ns ∧ p = .int c := by
  obtain ⟨c, hc, e⟩ := List.mem_map.mp h
  exact ⟨c, hc, e.symm⟩
theorem Ints_cons (n : Int) (ns : List Int) : Ints (n :: ns) = .int n :: Ints ns := rfl
theorem datNs_Ints (n : Nat) (ns : List Int) : datNs n (Ints ns) = true := datNs_Ints' n ns
theorem eqPs_Ints (a b : List Int) : eqPs (Ints a) (Ints b) = (a == b) := eqPs_Ints' a b
theorem Ints_nil : Ints [] = [] := rfl
theorem Ints_app (a b : List Int) : Ints (a ++ b) = Ints a ++ Ints b := by unfold Ints; rw [List.map_append]
def hand (cells : List Int) (i rest mix cnt : Int) : Sl := .own [.lst (Ints cells), .int i, .int rest, .int mix, .int cnt]
theorem mulOk_r {i j : Int} (h : -(2 ^ 64) < j ∧ j < 2 ^ 64) : mulOk i j = true := by
  unfold mulOk
  simp only [Bool.or_eq_true, decide_eq_true_eq]
  exact .inl (.inr h)
theorem mulOk_l {i j : Int} (h : -(2 ^ 64) < i ∧ i < 2 ^ 64) : mulOk i j = true := by
  unfold mulOk
  simp only [Bool.or_eq_true, decide_eq_true_eq]
  exact .inl (.inl h)
theorem log2_small {j : Int} (h : 0 < j ∧ j < 2 ^ 64) : j.natAbs.log2 < 9000 := by
  have h1 : j.natAbs < 2 ^ 64 := by omega
  have := (Nat.log2_lt (n := j.natAbs) (by omega)).mpr h1
  omega
/-- a hand that may be drawn from -/
def Hd (s : Sl) : Prop := ∃ (cells : List Int) (i : Nat) (rest mix cnt : Int), s = hand cells i rest mix cnt ∧ i ≤ cells.length ∧ 0 ≤ rest ∧ (∀ c ∈ cells, 0 ≤ c)
/-- the part that takes a cell -/
def dA : PSF := (sIf (tAndF (tOf (eBin opEq (eBin opIx (ePk 0) (eC (.int 2))) (eC (.int 0)))) (tOf (eBin opLt (eBin opIx (ePk 0) (eC (.int 1))) (eNary clLen (aCons (eBin opIx (ePk 0) (eC (.int 0))) aNil))))) (sSeq (sSet 2 (eBin opIx (eBin opIx (ePk 0) (eC (.int 0))) (eBin opIx (ePk 0) (eC (.int 1))))) (sSeq (sSetIx 0 (eBin opAdd (eBin opIx (ePk 0) (eC (.int 1))) (eC (.int 1))) (eC (.int 1))) (sSeq (sSetIx 0 (eBin opMod (eNary clInt (aCons (eBin opAdd (eBin opAdd (eBin opMul (eBin opIx (ePk 0) (eC (.int 3))) (eC (.int 69621))) (ePk 2)) (eC (.int 29))) aNil)) (eC (.int 2147483629))) (eC (.int 3))) (sIf (tOf (eBin opGe (ePk 2) (eBin opPow (eC (.int 10)) (eC (.int 18))))) (sSetIx 0 (eVar 2) (eC (.int 2))) sNil)))) sNil)
def dB : PSF := (sIf (tOf (eBin opGt (eBin opIx (ePk 0) (eC (.int 2))) (eC (.int 0)))) (sSeq (sSet 3 (eBin opMod (eNary clInt (aCons (eBin opIx (ePk 0) (eC (.int 2))) aNil)) (ePk 1))) (sSeq (sSetIx 0 (eBin opFdiv (eBin opIx (ePk 0) (eC (.int 2))) (ePk 1)) (eC (.int 2))) (sRet (eVar 3)))) sNil)
def dC : PSF := (sSeq (sSetIx 0 (eBin opAdd (eBin opIx (ePk 0) (eC (.int 4))) (eC (.int 1))) (eC (.int 4))) (sSeq (sSet 4 (eBin opMod (eNary clInt (aCons (eBin opMul (eNary clInt (aCons (eBin opAdd (eBin opIx (ePk 0) (eC (.int 3))) (eBin opMul (eC (.int 7919)) (eBin opIx (ePk 0) (eC (.int 4))))) aNil)) (eC (.int 48271))) aNil)) (eC (.int 2147483647)))) (sSeq (sSet 4 (eBin opMod (eNary clInt (aCons (eBin opMul (ePk 4) (eBin opAdd (eBin opFdiv (ePk 4) (eC (.int 1009))) (eC (.int 69621)))) aNil)) (eC (.int 2147483647)))) (sSeq (sSet 4 (eBin opMod (eNary clInt (aCons (eBin opMul (ePk 4) (eBin opAdd (eBin opFdiv (ePk 4) (eC (.int 2003))) (eC (.int 40692)))) aNil)) (eC (.int 2147483399)))) (sRet (eBin opMod (eNary clInt (aCons (eBin opFdiv (ePk 4) (eC (.int 16))) aNil)) (ePk 1)))))))
theorem draw_abc : F_draw0 = fnF 5 [false, false] (sSeq dA (sSeq dB dC)) := rfl
theorem getA {cells : List Int} {i : Nat} {c : Int} (h : cells[i]? = some c) : (Ints cells)[i]? = some (.int c) := by
  unfold Ints
  rw [List.getElem?_map, h]; rfl
theorem ixN_nat {n i : Nat} (h : i < n) : L2.ixN n (i : Int) = some i := by
  unfold L2.ixN
  simp
  omega
theorem dA_no {cells : List Int} {i : Nat} {rest mix cnt lim : Int} (h : ¬ (rest = 0 ∧ i < cells.length)) : dA [hand cells i rest mix cnt, .fz (.int lim), .un, .un, .un] = some (.nx, [hand cells i rest mix cnt, .fz (.int lim), .un, .un, .un]) := by
  by_cases h1 : rest = 0
  · have h2 : ¬ i < cells.length := fun z => h ⟨h1, z⟩
    simp [dA, hand, Ints_len, Ints_get, fnF, prepP, finP, sNil, sSeq, sIf, sRet, sRetN, sExpr, sSet, sPar, sPar3, sAsg, sSetIx, sFor, gNm, gTp, gsNil, gsCons, eVar, ePk, eMv, eBor, eC, eBin, eNeg, eAndF, eOrF, eNotF, eIf, eChain, eTup, eLst, eNary, eCall, eMeth, eMake, eFld, eSl, oSome, oNone, aNil, aCons, tOf, tAndF, tOrF, tNotF, cont, conts, tmpOf, valOf, valsOf, toVl, Vl.sl, putB, iSeq, seqOf, iRange1, iRange2, iZip2, iZip3, iEnum, opAdd, opSub, opMul, opMod, opFdiv, opPow, opEq, opNe, opLt, opLe, opGt, opGe, opCmp, opIs, opIsNot, opIx, opSl, isNon, clLen, clAbs, clInt, clMax, clMin, clMax2, clMin2, clSum, clAll, clAny, clTuple, clList, clIsi, isTy, isAny, tyP, subTy, eAppend, eExtend, L2.atI, L2.ixN, datN_i, datN_n, datN_b, datN_l, datN_t, datNs_Ints, datNs_nil, eqP_ii, eqP_ll, eqP_tt, eqP_nn, eqP_bb, eqPs_Ints, eqPs_nn, eqPs_nc, eqPs_cn, lineN, h1]
    omega
  · simp [dA, hand, Ints_len, Ints_get, fnF, prepP, finP, sNil, sSeq, sIf, sRet, sRetN, sExpr, sSet, sPar, sPar3, sAsg, sSetIx, sFor, gNm, gTp, gsNil, gsCons, eVar, ePk, eMv, eBor, eC, eBin, eNeg, eAndF, eOrF, eNotF, eIf, eChain, eTup, eLst, eNary, eCall, eMeth, eMake, eFld, eSl, oSome, oNone, aNil, aCons, tOf, tAndF, tOrF, tNotF, cont, conts, tmpOf, valOf, valsOf, toVl, Vl.sl, putB, iSeq, seqOf, iRange1, iRange2, iZip2, iZip3, iEnum, opAdd, opSub, opMul, opMod, opFdiv, opPow, opEq, opNe, opLt, opLe, opGt, opGe, opCmp, opIs, opIsNot, opIx, opSl, isNon, clLen, clAbs, clInt, clMax, clMin, clMax2, clMin2, clSum, clAll, clAny, clTuple, clList, clIsi, isTy, isAny, tyP, subTy, eAppend, eExtend, L2.atI, L2.ixN, datN_i, datN_n, datN_b, datN_l, datN_t, datNs_Ints, datNs_nil, eqP_ii, eqP_ll, eqP_tt, eqP_nn, eqP_bb, eqPs_Ints, eqPs_nn, eqPs_nc, eqPs_cn, lineN, h1]
theorem dA_yes {cells : List Int} {i : Nat} {mix cnt lim c : Int} (h : cells[i]? = some c) : dA [hand cells i 0 mix cnt, .fz (.int lim), .un, .un, .un] = some (.nx, [hand cells (i + 1) (if 10 ^ 18 ≤ c then c else 0) ((mix * 69621 + c + 29) % 2147483629) cnt, .fz (.int lim), .fz (.int c), .un, .un]) := by
  obtain ⟨hi, rfl⟩ := List.getElem?_eq_some_iff.mp h
  have hm : mulOk mix 69621 = true := mulOk_r (by omega)
  have hn : (Ints cells).length = cells.length := by simp [Ints]
  by_cases hc : (1000000000000000000 : Int) ≤ cells[i]
  · simp [dA, hand, Ints_len, Ints_get, fnF, prepP, finP, sNil, sSeq, sIf, sRet, sRetN, sExpr, sSet, sPar, sPar3, sAsg, sSetIx, sFor, gNm, gTp, gsNil, gsCons, eVar, ePk, eMv, eBor, eC, eBin, eNeg, eAndF, eOrF, eNotF, eIf, eChain, eTup, eLst, eNary, eCall, eMeth, eMake, eFld, eSl, oSome, oNone, aNil, aCons, tOf, tAndF, tOrF, tNotF, cont, conts, tmpOf, valOf, valsOf, toVl, Vl.sl, putB, iSeq, seqOf, iRange1, iRange2, iZip2, iZip3, iEnum, opAdd, opSub, opMul, opMod, opFdiv, opPow, opEq, opNe, opLt, opLe, opGt, opGe, opCmp, opIs, opIsNot, opIx, opSl, isNon, clLen, clAbs, clInt, clMax, clMin, clMax2, clMin2, clSum, clAll, clAny, clTuple, clList, clIsi, isTy, isAny, tyP, subTy, eAppend, eExtend, L2.atI, L2.ixN, datN_i, datN_n, datN_b, datN_l, datN_t, datNs_Ints, datNs_nil, eqP_ii, eqP_ll, eqP_tt, eqP_nn, eqP_bb, eqPs_Ints, eqPs_nn, eqPs_nc, eqPs_cn, lineN, hi, hm, hc]
  · simp [dA, hand, Ints_len, Ints_get, fnF, prepP, finP, sNil, sSeq, sIf, sRet, sRetN, sExpr, sSet, sPar, sPar3, sAsg, sSetIx, sFor, gNm, gTp, gsNil, gsCons, eVar, ePk, eMv, eBor, eC, eBin, eNeg, eAndF, eOrF, eNotF, eIf, eChain, eTup, eLst, eNary, eCall, eMeth, eMake, eFld, eSl, oSome, oNone, aNil, aCons, tOf, tAndF, tOrF, tNotF, cont, conts, tmpOf, valOf, valsOf, toVl, Vl.sl, putB, iSeq, seqOf, iRange1, iRange2, iZip2, iZip3, iEnum, opAdd, opSub, opMul, opMod, opFdiv, opPow, opEq, opNe, opLt, opLe, opGt, opGe, opCmp, opIs, opIsNot, opIx, opSl, isNon, clLen, clAbs, clInt, clMax, clMin, clMax2, clMin2, clSum, clAll, clAny, clTuple, clList, clIsi, isTy, isAny, tyP, subTy, eAppend, eExtend, L2.atI, L2.ixN, datN_i, datN_n, datN_b, datN_l, datN_t, datNs_Ints, datNs_nil, eqP_ii, eqP_ll, eqP_tt, eqP_nn, eqP_bb, eqPs_Ints, eqPs_nn, eqPs_nc, eqPs_cn, lineN, hi, hm, hc]
theorem dB_no {cells : List Int} {i mix cnt lim : Int} {a b c : Sl} : dB [hand cells i 0 mix cnt, .fz (.int lim), a, b, c] = some (.nx, [hand cells i 0 mix cnt, .fz (.int lim), a, b, c]) := by
  simp [dB, hand, fnF, prepP, finP, sNil, sSeq, sIf, sRet, sRetN, sExpr, sSet, sPar, sPar3, sAsg, sSetIx, sFor, gNm, gTp, gsNil, gsCons, eVar, ePk, eMv, eBor, eC, eBin, eNeg, eAndF, eOrF, eNotF, eIf, eChain, eTup, eLst, eNary, eCall, eMeth, eMake, eFld, eSl, oSome, oNone, aNil, aCons, tOf, tAndF, tOrF, tNotF, cont, conts, tmpOf, valOf, valsOf, toVl, Vl.sl, putB, iSeq, seqOf, iRange1, iRange2, iZip2, iZip3, iEnum, opAdd, opSub, opMul, opMod, opFdiv, opPow, opEq, opNe, opLt, opLe, opGt, opGe, opCmp, opIs, opIsNot, opIx, opSl, isNon, clLen, clAbs, clInt, clMax, clMin, clMax2, clMin2, clSum, clAll, clAny, clTuple, clList, clIsi, isTy, isAny, tyP, subTy, eAppend, eExtend, L2.atI, L2.ixN, datN_i, datN_n, datN_b, datN_l, datN_t, datNs_Ints, datNs_nil, eqP_ii, eqP_ll, eqP_tt, eqP_nn, eqP_bb, eqPs_Ints, eqPs_nn, eqPs_nc, eqPs_cn, lineN]
theorem dB_yes {cells : List Int} {i rest mix cnt lim : Int} {a b c : Sl} (h : 0 < rest) (hl : 0 < lim ∧ lim < 2 ^ 64) : dB [hand cells i rest mix cnt, .fz (.int lim), a, b, c] = some (.rt (.fz (.int (rest % lim))), [hand cells i (rest / lim) mix cnt, .fz (.int lim), a, .fz (.int (rest % lim)), c]) := by
  have h2 := log2_small hl
  simp [dB, hand, fnF, prepP, finP, sNil, sSeq, sIf, sRet, sRetN, sExpr, sSet, sPar, sPar3, sAsg, sSetIx, sFor, gNm, gTp, gsNil, gsCons, eVar, ePk, eMv, eBor, eC, eBin, eNeg, eAndF, eOrF, eNotF, eIf, eChain, eTup, eLst, eNary, eCall, eMeth, eMake, eFld, eSl, oSome, oNone, aNil, aCons, tOf, tAndF, tOrF, tNotF, cont, conts, tmpOf, valOf, valsOf, toVl, Vl.sl, putB, iSeq, seqOf, iRange1, iRange2, iZip2, iZip3, iEnum, opAdd, opSub, opMul, opMod, opFdiv, opPow, opEq, opNe, opLt, opLe, opGt, opGe, opCmp, opIs, opIsNot, opIx, opSl, isNon, clLen, clAbs, clInt, clMax, clMin, clMax2, clMin2, clSum, clAll, clAny, clTuple, clList, clIsi, isTy, isAny, tyP, subTy, eAppend, eExtend, L2.atI, L2.ixN, datN_i, datN_n, datN_b, datN_l, datN_t, datNs_Ints, datNs_nil, eqP_ii, eqP_ll, eqP_tt, eqP_nn, eqP_bb, eqPs_Ints, eqPs_nn, eqPs_nc, eqPs_cn, lineN, h, hl, h2]
theorem dC_of {cells : List Int} {i mix cnt lim : Int} {a b c : Sl} (hl : 0 < lim ∧ lim < 2 ^ 64) : ∃ r x, dC [hand cells i 0 mix cnt, .fz (.int lim), a, b, c] = some (.rt (.fz (.int r)), [hand cells i 0 mix (cnt + 1), .fz (.int lim), a, b, x]) ∧ 0 ≤ r ∧ r < lim := by
  have h1 : mulOk 7919 (cnt + 1) = true := mulOk_l (by omega)
  have h2 : ∀ j : Int, mulOk j 48271 = true := fun j => mulOk_r (by omega)
  have h3 : ∀ j k : Int, mulOk (j % 2147483647) k = true := fun j k => mulOk_l (by omega)
  have g1 : Nat.log2 1009 < 9000 := by decide +kernel
  have g2 : Nat.log2 2003 < 9000 := by decide +kernel
  have g3 : Nat.log2 16 < 9000 := by decide +kernel
  refine ⟨_, _, by
    simp [dC, hand, fnF, prepP, finP, sNil, sSeq, sIf, sRet, sRetN, sExpr, sSet, sPar, sPar3, sAsg, sSetIx, sFor, gNm, gTp, gsNil, gsCons, eVar, ePk, eMv, eBor, eC, eBin, eNeg, eAndF, eOrF, eNotF, eIf, eChain, eTup, eLst, eNary, eCall, eMeth, eMake, eFld, eSl, oSome, oNone, aNil, aCons, tOf, tAndF, tOrF, tNotF, cont, conts, tmpOf, valOf, valsOf, toVl, Vl.sl, putB, iSeq, seqOf, iRange1, iRange2, iZip2, iZip3, iEnum, opAdd, opSub, opMul, opMod, opFdiv, opPow, opEq, opNe, opLt, opLe, opGt, opGe, opCmp, opIs, opIsNot, opIx, opSl, isNon, clLen, clAbs, clInt, clMax, clMin, clMax2, clMin2, clSum, clAll, clAny, clTuple, clList, clIsi, isTy, isAny, tyP, subTy, eAppend, eExtend, L2.atI, L2.ixN, datN_i, datN_n, datN_b, datN_l, datN_t, datNs_Ints, datNs_nil, eqP_ii, eqP_ll, eqP_tt, eqP_nn, eqP_bb, eqPs_Ints, eqPs_nn, eqPs_nc, eqPs_cn, lineN, h1, h2, h3, hl, g1, g2, g3]
    exact ⟨rfl, rfl⟩, ?_, ?_⟩
  · exact Int.emod_nonneg _ (by omega)
  · exact Int.emod_lt_of_pos _ (by omega)
theorem draw_spec {s : Sl} {lim : Int} (h : Hd s) (hl : 0 < lim ∧ lim < 2 ^ 64) : ∃ r s', F_draw0 [s, .fz (.int lim)] = some (.fz (.int r), [s', .fz (.int lim)]) ∧ 0 ≤ r ∧ r < lim ∧ Hd s' := by
  obtain ⟨cells, i, rest, mix, cnt, rfl, hi, hr, hc⟩ := h
  have key : ∀ (i : Nat) (rest mix cnt : Int) (a : Sl), i ≤ cells.length → 0 ≤ rest → dA [hand cells i rest mix cnt, .fz (.int lim), .un, .un, .un] = some (.nx, [hand cells i rest mix cnt, .fz (.int lim), a, .un, .un]) → True := fun _ _ _ _ _ _ _ _ => trivial
  obtain ⟨i', rest', mix', a, e1, hi', hr'⟩ : ∃ (i' : Nat) (rest' mix' : Int) (a : Sl), dA [hand cells i rest mix cnt, .fz (.int lim), .un, .un, .un] = some (.nx, [hand cells i' rest' mix' cnt, .fz (.int lim), a, .un, .un]) ∧ i' ≤ cells.length ∧ 0 ≤ rest' := by
    by_cases h1 : rest = 0 ∧ i < cells.length
    · obtain ⟨rfl, h2⟩ := h1
      have e := dA_yes (mix := mix) (cnt := cnt) (lim := lim) (List.getElem?_eq_getElem h2)
      refine ⟨i + 1, _, _, _, by rw [show ((i + 1 : Nat) : Int) = (i : Int) + 1 by omega]; exact e, h2, ?_⟩
      split
      · exact hc _ (List.getElem_mem h2)
      · omega
    · exact ⟨i, rest, mix, .un, dA_no h1, hi, hr⟩
  rw [draw_abc]
  by_cases h2 : 0 < rest'
  · have e2 := dB_yes (cells := cells) (i := i') (mix := mix') (cnt := cnt) (a := a) (b := .un) (c := .un) h2 hl
    refine ⟨rest' % lim, hand cells i' (rest' / lim) mix' cnt, ?_, Int.emod_nonneg _ (by omega), Int.emod_lt_of_pos _ (by omega), cells, i', _, _, _, rfl, hi', Int.ediv_nonneg hr' (by omega), hc⟩
    simp [fnF, prepP, sSeq, e1, e2, finP]
  · have h3 : rest' = 0 := by omega
    subst h3
    obtain ⟨r, x, e3, h4, h5⟩ := dC_of (cells := cells) (i := i') (mix := mix') (cnt := cnt) (a := a) (b := .un) (c := .un) hl
    refine ⟨r, hand cells i' 0 mix' (cnt + 1), ?_, h4, h5, cells, i', _, _, _, rfl, hi', Int.le_refl _, hc⟩
    simp [fnF, prepP, sSeq, e1, dB_no, e3, finP]
end PL
set_option Elab.async false
set_option linter.all false
set_option maxRecDepth 100000
set_option maxHeartbeats 4000000
/-! PLq: loops and list comprehensions worked out. -/
namespace PL
open PySem PySem.Spec PyProof.Rows L2

theorem backS_get {ρ : List Sl} {i : Nat} : ∀ {vs : List Nat} {ss : List Sl}, i ∉ vs → (backS ρ vs ss)[i]? = ρ[i]?
  | [], ss, _ => by unfold backS; rfl
  | v :: vs, [], _ => by unfold backS; rfl
  | v :: vs, s :: ss, h => by
    rw [List.mem_cons, not_or] at h
    unfold backS
    rw [List.getElem?_set_ne (fun z => h.1 z.symm), backS_get h.2]
theorem backS_back {ρ : List Sl} : ∀ {vs : List Nat} {ss ts : List Sl}, ss.length = vs.length → ts.length = vs.length → vs.Nodup → backS (backS ρ vs ss) vs ts = backS ρ vs ts
  | [], [], [], _, _, _ => by unfold backS; rfl
  | [], _ :: _, _, h, _, _ => by cases h
  | [], _, _ :: _, _, h, _ => by cases h
  | _ :: _, [], _, h, _, _ => by cases h
  | _ :: _, _, [], _, h, _ => by cases h
  | v :: vs, s :: ss, t :: ts, h1, h2, nd => by
    rw [List.nodup_cons] at nd
    have set_back : ∀ (us : List Nat) (xs : List Sl) (τ : List Sl), v ∉ us → backS (τ.set v s) us xs = (backS τ us xs).set v s := by
      intro us
      induction us with
      | nil => intro xs τ _; unfold backS; rfl
      | cons u us ih =>
        intro xs τ hu
        rw [List.mem_cons, not_or] at hu
        cases xs with
        | nil => unfold backS; rfl
        | cons x xs =>
          unfold backS
          rw [ih xs τ hu.2, List.set_comm _ _ (fun z => hu.1 z)]
    show (backS ((backS ρ vs ss).set v s) vs ts).set v t = (backS ρ vs ts).set v t
    rw [set_back vs ts _ nd.1, List.set_set, backS_back (by simpa using h1) (by simpa using h2) nd.2]
theorem keepS_back {ρ : List Sl} : ∀ {vs : List Nat}, (∀ v ∈ vs, v < ρ.length) → backS ρ vs (keepS ρ vs) = ρ
  | [], _ => by unfold backS; rfl
  | v :: vs, h => by
    have hv := h v List.mem_cons_self
    have ih := keepS_back (ρ := ρ) (vs := vs) fun u hu => h u (List.mem_cons_of_mem _ hu)
    show (backS ρ vs (keepS ρ vs)).set v ((ρ[v]?).getD .un) = ρ
    rw [ih, List.getElem?_eq_getElem hv]
    exact List.set_getElem_self hv
theorem keepS_len {ρ : List Sl} {vs : List Nat} : (keepS ρ vs).length = vs.length := by unfold keepS; rw [List.length_map]
theorem wipe_back {ρ : List Sl} : ∀ {vs : List Nat}, wipeS ρ vs = backS ρ vs (vs.map fun _ => .un)
  | [] => by unfold wipeS backS; rfl
  | v :: vs => by
    show (wipeS ρ vs).set v .un = (backS ρ vs (vs.map fun _ => .un)).set v .un
    rw [wipe_back]
theorem wipe_backS {ρ : List Sl} {vs : List Nat} {ss : List Sl} (h : ss.length = vs.length) (nd : vs.Nodup) : wipeS (backS ρ vs ss) vs = wipeS ρ vs := by
  rw [wipe_back, wipe_back, backS_back h (by rw [List.length_map]) nd]
/-- a comprehension that changes nothing -/
theorem lcP_pure {vs : List Nat} {g : PGF} {tt : PT'} {fe : PF} {ρ0 : List Sl} (tb : PV → Bool) (h : PV → PV) (nd : vs.Nodup) : ∀ (items : List PV) (us : List Sl), us.length = vs.length →
    (∀ p ∈ items, ∃ ρ1 ys, g p (wipeS ρ0 vs) = some ρ1 ∧ ys.length = vs.length ∧ tt ρ1 = some (tb p, backS ρ0 vs ys) ∧ (tb p = true → ∃ x zs, zs.length = vs.length ∧ fe (backS ρ0 vs ys) = some (x, backS ρ0 vs zs) ∧ valOf x = some (h p))) →
    ∃ ws, ws.length = vs.length ∧ lcP vs g tt fe items (backS ρ0 vs us) = some ((items.filter tb).map h, backS ρ0 vs ws)
  | [], us, lu, _ => ⟨us, lu, rfl⟩
  | p :: ps, us, lu, st => by
    obtain ⟨ρ1, ys, h1, h2, h3, h4⟩ := st p List.mem_cons_self
    have st' := fun q hq => st q (List.mem_cons_of_mem _ hq)
    unfold lcP
    rw [wipe_backS lu nd, h1, Option.bind_some, h3, Option.bind_some]
    cases hb : tb p with
    | true =>
      obtain ⟨x, zs, h5, h6, h7⟩ := h4 hb
      obtain ⟨ws, lw, e⟩ := lcP_pure tb h nd ps zs h5 st'
      refine ⟨ws, lw, ?_⟩
      rw [if_pos rfl, h6, Option.bind_some]
      dsimp only
      rw [h7, Option.bind_some, e, List.filter_cons_of_pos hb]
      rfl
    | false =>
      obtain ⟨ws, lw, e⟩ := lcP_pure tb h nd ps ys h2 st'
      refine ⟨ws, lw, ?_⟩
      rw [if_neg (by simp), e, List.filter_cons_of_neg (by rw [hb]; simp)]
theorem eLc_if {vs : List Nat} {w : PIF} {g : PGF} {tt : PT'} {fe : PF} {items : List PV} {rs ρ ρ0 : List Sl} (tb : PV → Bool) (h : PV → PV) (hw : w ρ = some (items, rs, ρ0)) (hrs : putB rs (rs.map tmpOf) ρ0 = ρ0) (nd : vs.Nodup) (hr : ∀ v ∈ vs, v < ρ0.length)
    (st : ∀ p ∈ items, ∃ ρ1 ys, g p (wipeS ρ0 vs) = some ρ1 ∧ ys.length = vs.length ∧ tt ρ1 = some (tb p, backS ρ0 vs ys) ∧ (tb p = true → ∃ x zs, zs.length = vs.length ∧ fe (backS ρ0 vs ys) = some (x, backS ρ0 vs zs) ∧ valOf x = some (h p))) :
    eLc w vs g tt fe ρ = some (.own ((items.filter tb).map h), ρ0) := by
  obtain ⟨ws, lw, e⟩ := lcP_pure (ρ0 := ρ0) tb h nd items (keepS ρ0 vs) keepS_len st
  rw [keepS_back hr] at e
  unfold eLc
  rw [hw, Option.bind_some]
  dsimp only
  rw [e]
  show some (_, _) = some (_, _)
  rw [backS_back lw keepS_len nd, keepS_back hr, hrs]
theorem eLc_map {vs : List Nat} {w : PIF} {g : PGF} {fe : PF} {items : List PV} {rs ρ ρ0 : List Sl} (h : PV → PV) (hw : w ρ = some (items, rs, ρ0)) (hrs : putB rs (rs.map tmpOf) ρ0 = ρ0) (nd : vs.Nodup) (hr : ∀ v ∈ vs, v < ρ0.length)
    (st : ∀ p ∈ items, ∃ ys x zs, g p (wipeS ρ0 vs) = some (backS ρ0 vs ys) ∧ ys.length = vs.length ∧ zs.length = vs.length ∧ fe (backS ρ0 vs ys) = some (x, backS ρ0 vs zs) ∧ valOf x = some (h p)) :
    eLc w vs g tTrue fe ρ = some (.own (items.map h), ρ0) := by
  have := eLc_if (tt := tTrue) (fun _ => true) h hw hrs nd hr fun p hp => by
    obtain ⟨ys, x, zs, h1, h2, h3, h4, h5⟩ := st p hp
    exact ⟨_, ys, h1, h2, rfl, fun _ => ⟨x, zs, h3, h4, h5⟩⟩
  rw [this, List.filter_eq_self.mpr (fun _ _ => rfl)]
/-- a comprehension that hands a state on -/
theorem lcP_ex {vs : List Nat} {g : PGF} {fe : PF} {I : List Sl → Prop} {P : PV → PV → Prop} : ∀ (items : List PV) (ρ : List Sl), I ρ →
    (∀ p ∈ items, ∀ ρ, I ρ → ∃ ρ1 ρ2 x q, g p (wipeS ρ vs) = some ρ1 ∧ fe ρ1 = some (x, ρ2) ∧ valOf x = some q ∧ P p q ∧ I ρ2) →
    ∃ qs ρ', lcP vs g tTrue fe items ρ = some (qs, ρ') ∧ I ρ' ∧ qs.length = items.length ∧ ∀ (j : Nat) (p q : PV), items[j]? = some p → qs[j]? = some q → P p q
  | [], ρ, h, _ => ⟨[], ρ, rfl, h, rfl, fun j p q h1 _ => by simp at h1⟩
  | p :: ps, ρ, h, st => by
    obtain ⟨ρ1, ρ2, x, q, h1, h2, h3, h4, h5⟩ := st p List.mem_cons_self ρ h
    obtain ⟨qs, ρ', e, h6, h7, h8⟩ := lcP_ex ps ρ2 h5 fun q hq => st q (List.mem_cons_of_mem _ hq)
    refine ⟨q :: qs, ρ', ?_, h6, by rw [List.length_cons, List.length_cons, h7], fun j a b g1 g2 => ?_⟩
    · unfold lcP
      rw [h1, Option.bind_some]
      rw [show tTrue ρ1 = some (true, ρ1) from rfl, Option.bind_some]
      dsimp only
      rw [if_pos rfl, h2, Option.bind_some]
      dsimp only
      rw [h3, Option.bind_some, e]; rfl
    · cases j with
      | zero => simp at g1 g2; subst g1 g2; exact h4
      | succ j => exact h8 j a b (by simpa using g1) (by simpa using g2)
theorem eLc_ex {vs : List Nat} {w : PIF} {g : PGF} {fe : PF} {items : List PV} {rs ρ ρ0 : List Sl} {I : List Sl → Prop} {P : PV → PV → Prop} (hw : w ρ = some (items, rs, ρ0)) (h0 : I ρ0)
    (st : ∀ p ∈ items, ∀ ρ, I ρ → ∃ ρ1 ρ2 x q, g p (wipeS ρ vs) = some ρ1 ∧ fe ρ1 = some (x, ρ2) ∧ valOf x = some q ∧ P p q ∧ I ρ2) :
    ∃ qs ρ', eLc w vs g tTrue fe ρ = some (.own qs, putB rs (rs.map tmpOf) (backS ρ' vs (keepS ρ0 vs))) ∧ I ρ' ∧ qs.length = items.length ∧ ∀ (j : Nat) (p q : PV), items[j]? = some p → qs[j]? = some q → P p q := by
  obtain ⟨qs, ρ', e, h⟩ := lcP_ex items ρ0 h0 st
  refine ⟨qs, ρ', ?_, h⟩
  unfold eLc
  rw [hw, Option.bind_some]
  dsimp only
  rw [e]; rfl
/-- a loop that runs through -/
theorem forP_ex {g : PGF} {body : PSF} {I : List Sl → Nat → Prop} : ∀ (items : List PV) (k : Nat) (ρ : List Sl), I ρ k →
    (∀ (j : Nat) (p : PV) (ρ : List Sl), items[j]? = some p → I ρ (k + j) → ∃ ρ1 ρ2, g p ρ = some ρ1 ∧ (body ρ1 = some (.nx, ρ2) ∨ body ρ1 = some (.ct, ρ2)) ∧ I ρ2 (k + j + 1)) →
    ∃ ρ', forP g body items ρ = some (.nx, ρ') ∧ I ρ' (k + items.length)
  | [], k, ρ, h, _ => ⟨ρ, rfl, h⟩
  | p :: ps, k, ρ, h, st => by
    obtain ⟨ρ1, ρ2, h1, h2, h3⟩ := st 0 p ρ rfl h
    obtain ⟨ρ', e, h4⟩ := forP_ex ps (k + 1) ρ2 h3 fun j q ρ hq hI => by
      have := st (j + 1) q ρ (by simpa using hq) (by rw [show k + (j + 1) = k + 1 + j by omega]; exact hI)
      rw [show k + (j + 1) + 1 = k + 1 + j + 1 by omega] at this
      exact this
    refine ⟨ρ', ?_, by rw [List.length_cons, show k + (ps.length + 1) = k + 1 + ps.length by omega]; exact h4⟩
    unfold forP
    rw [h1, Option.bind_some]
    rcases h2 with h2 | h2
    · rw [h2, Option.bind_some]; exact e
    · rw [h2, Option.bind_some]; exact e
end PL
set_option Elab.async false
set_option linter.all false
set_option maxRecDepth 100000
set_option maxHeartbeats 4000000
/-! PLr: the laws' own hands; short names for what is worked out often. -/
namespace PL
open PySem
theorem cutP_map {α β : Type} (f : α → β) (xs : List α) (lo hi : Option Int) : cutP (xs.map f) lo hi = (cutP xs lo hi).map f := by
  unfold cutP
  rw [List.length_map, List.map_take, List.map_drop]
theorem cutP_Ints (xs : List Int) (lo hi : Option Int) : cutP (Ints xs) lo hi = Ints (cutP xs lo hi) := cutP_map _ _ _ _
def F_hand0_l1 : PF := eLc (iSeq (eSl (ePk 0) oNone (oSome (eC (.int 63))))) [2] (gNm 2) tTrue (eNary clAbs (aCons (eNary clInt (aCons (ePk 2) aNil)) aNil))
def F_hand0 : FP := fnF 3 [false] (sSeq (sSet 1 F_hand0_l1) (sRet (eLst (aCons (eVar 1) (aCons (eC (.int 0)) (aCons (eC (.int 0)) (aCons (eBin opAdd (eC (.int 83)) (eBin opMul (eC (.int 7)) (eNary clLen (aCons (ePk 1) aNil)))) (aCons (eC (.int 0)) aNil))))))))
def absI (i : Int) : Int := (i.natAbs : Int)
theorem hand_spec (ns : List Int) : ∃ v, F_hand0 [.fz (.scr (Ints ns))] = some (v, [.fz (.scr (Ints ns))]) ∧ Hd v.sl := by
  have e : F_hand0_l1 [.fz (.scr (Ints ns)), .un, .un] = some (.own ((Ints (cutP ns none (some 63))).map fun p => match p with | .int i => .int (absI i) | _ => .non), [.fz (.scr (Ints ns)), .un, .un]) := by
    refine eLc_map (items := Ints (cutP ns none (some 63))) (rs := [.own (Ints (cutP ns none (some 63)))]) _ (by simp [fnF, prepP, finP, sNil, sSeq, sIf, sRet, sRetN, sExpr, sSet, sPar, sPar3, sAsg, sSetIx, sFor, gNm, gTp, gsNil, gsCons, eVar, ePk, eMv, eBor, eC, eBin, eNeg, eAndF, eOrF, eNotF, eIf, eChain, eTup, eLst, eNary, eCall, eMeth, eMake, eFld, eSl, oSome, oNone, aNil, aCons, tOf, tAndF, tOrF, tNotF, cont, conts, tmpOf, valOf, valsOf, toVl, Vl.sl, putB, iSeq, seqOf, iRange1, iRange2, iZip2, iZip3, iEnum, opAdd, opSub, opMul, opMod, opFdiv, opPow, opEq, opNe, opLt, opLe, opGt, opGe, opCmp, opIs, opIsNot, opIx, opSl, isNon, clLen, clAbs, clInt, clMax, clMin, clMax2, clMin2, clSum, clAll, clAny, clTuple, clList, clIsi, isTy, isAny, tyP, subTy, eAppend, eExtend, L2.atI, L2.ixN, datN_i, datN_n, datN_b, datN_l, datN_t, datNs_Ints, datNs_nil, eqP_ii, eqP_ll, eqP_tt, eqP_nn, eqP_bb, eqPs_Ints, eqPs_nn, eqPs_nc, eqPs_cn, lineN, cutP_Ints]) (by simp [fnF, prepP, finP, sNil, sSeq, sIf, sRet, sRetN, sExpr, sSet, sPar, sPar3, sAsg, sSetIx, sFor, gNm, gTp, gsNil, gsCons, eVar, ePk, eMv, eBor, eC, eBin, eNeg, eAndF, eOrF, eNotF, eIf, eChain, eTup, eLst, eNary, eCall, eMeth, eMake, eFld, eSl, oSome, oNone, aNil, aCons, tOf, tAndF, tOrF, tNotF, cont, conts, tmpOf, valOf, valsOf, toVl, Vl.sl, putB, iSeq, seqOf, iRange1, iRange2, iZip2, iZip3, iEnum, opAdd, opSub, opMul, opMod, opFdiv, opPow, opEq, opNe, opLt, opLe, opGt, opGe, opCmp, opIs, opIsNot, opIx, opSl, isNon, clLen, clAbs, clInt, clMax, clMin, clMax2, clMin2, clSum, clAll, clAny, clTuple, clList, clIsi, isTy, isAny, tyP, subTy, eAppend, eExtend, L2.atI, L2.ixN, datN_i, datN_n, datN_b, datN_l, datN_t, datNs_Ints, datNs_nil, eqP_ii, eqP_ll, eqP_tt, eqP_nn, eqP_bb, eqPs_Ints, eqPs_nn, eqPs_nc, eqPs_cn, lineN]) (by decide) (by simp) fun q hq => ?_
    obtain ⟨c, hc, rfl⟩ := Ints_mem hq
    refine ⟨[.fz (.int c)], .fz (.int (absI c)), [.fz (.int c)], ?_⟩
    simp [fnF, prepP, finP, sNil, sSeq, sIf, sRet, sRetN, sExpr, sSet, sPar, sPar3, sAsg, sSetIx, sFor, gNm, gTp, gsNil, gsCons, eVar, ePk, eMv, eBor, eC, eBin, eNeg, eAndF, eOrF, eNotF, eIf, eChain, eTup, eLst, eNary, eCall, eMeth, eMake, eFld, eSl, oSome, oNone, aNil, aCons, tOf, tAndF, tOrF, tNotF, cont, conts, tmpOf, valOf, valsOf, toVl, Vl.sl, putB, iSeq, seqOf, iRange1, iRange2, iZip2, iZip3, iEnum, opAdd, opSub, opMul, opMod, opFdiv, opPow, opEq, opNe, opLt, opLe, opGt, opGe, opCmp, opIs, opIsNot, opIx, opSl, isNon, clLen, clAbs, clInt, clMax, clMin, clMax2, clMin2, clSum, clAll, clAny, clTuple, clList, clIsi, isTy, isAny, tyP, subTy, eAppend, eExtend, L2.atI, L2.ixN, datN_i, datN_n, datN_b, datN_l, datN_t, datNs_Ints, datNs_nil, eqP_ii, eqP_ll, eqP_tt, eqP_nn, eqP_bb, eqPs_Ints, eqPs_nn, eqPs_nc, eqPs_cn, lineN, wipeS, backS, absI]
    split <;> omega
  have e2 : ((Ints (cutP ns none (some 63))).map fun p => match p with | .int i => .int (absI i) | _ => .non) = Ints ((cutP ns none (some 63)).map absI) := by
    unfold Ints
    rw [List.map_map, List.map_map]
    rfl
  rw [e2] at e
  have hp : ∀ c ∈ (cutP ns none (some 63)).map absI, 0 ≤ c := fun c hc => by
    obtain ⟨d, _, rfl⟩ := List.mem_map.mp hc
    unfold absI
    omega
  generalize (cutP ns none (some 63)).map absI = cs at e hp
  have hm : mulOk 7 (cs.length : Int) = true := mulOk_l (by omega)
  refine ⟨.own [.lst (Ints cs), .int 0, .int 0, .int (83 + 7 * cs.length), .int 0], ?_, ?_⟩
  · simp [F_hand0, fnF, prepP, finP, sNil, sSeq, sIf, sRet, sRetN, sExpr, sSet, sPar, sPar3, sAsg, sSetIx, sFor, gNm, gTp, gsNil, gsCons, eVar, ePk, eMv, eBor, eC, eBin, eNeg, eAndF, eOrF, eNotF, eIf, eChain, eTup, eLst, eNary, eCall, eMeth, eMake, eFld, eSl, oSome, oNone, aNil, aCons, tOf, tAndF, tOrF, tNotF, cont, conts, tmpOf, valOf, valsOf, toVl, Vl.sl, putB, iSeq, seqOf, iRange1, iRange2, iZip2, iZip3, iEnum, opAdd, opSub, opMul, opMod, opFdiv, opPow, opEq, opNe, opLt, opLe, opGt, opGe, opCmp, opIs, opIsNot, opIx, opSl, isNon, clLen, clAbs, clInt, clMax, clMin, clMax2, clMin2, clSum, clAll, clAny, clTuple, clList, clIsi, isTy, isAny, tyP, subTy, eAppend, eExtend, L2.atI, L2.ixN, datN_i, datN_n, datN_b, datN_l, datN_t, datNs_Ints, datNs_nil, eqP_ii, eqP_ll, eqP_tt, eqP_nn, eqP_bb, eqPs_Ints, eqPs_nn, eqPs_nc, eqPs_cn, lineN, e, Ints_len, hm]
  · exact ⟨cs, 0, 0, _, 0, rfl, Nat.zero_le _, Int.le_refl _, hp⟩
end PL
set_option Elab.async false
set_option linter.all false
set_option maxRecDepth 100000
set_option maxHeartbeats 4000000
/-! PLs: from the function of the law to the law. -/
namespace PL
open PySem PySem.Spec PyProof.Rows L2
/-- what the law's end asks -/
def spEnd (K : PySem.W.Frag) : Sp := fun vs H Q _ => ∃ (a : Addr) (ns : List Int), vs = [.ref a] ∧ SqL K H a (ns.map V.int) ∧ ns.length ≤ 63 ∧ ∀ H', Q (.bl true) H'
theorem rpl_ints {R : RE} {F : Hp} : ∀ ns : List Int, RpL R F (ns.map PV.int) (ns.map V.int)
  | [] => .nil
  | n :: ns => .cons (.int n) (rpl_ints ns)
theorem end_of {P : Program} {w : World} {K : PySem.W.Frag} {mg : Str → Option Value} {base : Heap} {R : RE} {k : Nat} {f : Addr} {fd : FuncData} {fn : FP} (hf : FnP P w K mg base R k f fd ["script"] fn) (hK : R.K = K) (h : ∀ ns : List Int, ns.length ≤ 63 → ∃ as', fn [.fz (.scr (Ints ns))] = some (.fz (.bl true), as')) :
    FnOk P w K mg base CX0 k f fd ["script"] (spEnd K) :=
  hf.ok.imp fun vs H Q E ⟨a, ns, e, hS, hl, q⟩ => by
    subst e
    obtain ⟨as', e⟩ := h ns hl
    have hB : Bag R ⟨H, H, []⟩ H H [] := ⟨.refl, fun i s o g => by simp at g, fun i j s t o u a g _ _ _ => by simp at g, fun a o q _ => q, fun a ha => by simp at ha, fun i s o a g _ => by simp at g, fun a o q => .inl q, .refl⟩
    have hr : Rp R H (.scr (Ints ns)) (.ref a) := .scr (vs := ns.map V.int) (by rw [hK]; exact hS) (rpl_ints ns)
    have hB2 := hB.push_fz hr
    refine ⟨rfl, H, [.fz (.scr (Ints ns))], .fz (.bl true), as', rfl, ⟨_, hB2⟩, e, fun x H' F' B => ?_⟩
    have hx : Rp R F' (.bl true) x := by
      obtain ⟨y, ey, r⟩ := B.mem (p := ((Vl.fz (.bl true)).sl, some x)) (by simp)
      cases ey
      exact r
    cases hx
    exact q H'
end PL
set_option Elab.async false
set_option linter.all false
set_option maxRecDepth 100000
set_option maxHeartbeats 4000000
/-! PLt: more methods of lists. -/
namespace PL
open PySem PySem.Spec PyProof.Rows L2

/-- where the first equal one stands -/
def idxP (q : PV) : List PV → Option Nat
  | [] => none
  | x :: xs => if eqP x q = true then some 0 else (idxP q xs).map (· + 1)
theorem idxP_spec {q : PV} : ∀ {xs : List PV} {j : Nat}, idxP q xs = some j → (∃ z, xs[j]? = some z ∧ eqP z q = true) ∧ ∀ (m : Nat) (z : PV), m < j → xs[m]? = some z → eqP z q = false
  | [], j, h => by cases h
  | x :: xs, j, h => by
    unfold idxP at h
    split at h
    · rename_i c
      cases h
      exact ⟨⟨x, rfl, c⟩, fun m z hm => by omega⟩
    · rename_i c
      rw [Option.map_eq_some_iff] at h
      obtain ⟨i, h1, rfl⟩ := h
      obtain ⟨⟨z, h2, h3⟩, h4⟩ := idxP_spec h1
      refine ⟨⟨z, by simpa using h2, h3⟩, fun m y hm g => ?_⟩
      cases m with
      | zero =>
        simp at g
        subst g
        simpa using c
      | succ m => exact h4 m y (by omega) (by simpa using g)
theorem toDs_get : ∀ {xs : List PV} {j : Nat} {z : PV}, xs[j]? = some z → (toDs xs)[j]? = some (toD z)
  | [], _, _, h => by simp at h
  | x :: xs, 0, z, h => by simp at h; subst h; rfl
  | x :: xs, j + 1, z, h => by
    rw [toDs, List.getElem?_cons_succ]
    exact toDs_get (by simpa using h)
theorem toDs_get' : ∀ {xs : List PV} {j : Nat} {d : PyData}, (toDs xs)[j]? = some d → ∃ z, xs[j]? = some z ∧ d = toD z
  | [], _, _, h => by simp [toDs] at h
  | x :: xs, 0, d, h => by
    rw [toDs] at h
    simp at h
    exact ⟨x, rfl, h.symm⟩
  | x :: xs, j + 1, d, h => by
    rw [toDs, List.getElem?_cons_succ] at h
    obtain ⟨z, h1, h2⟩ := toDs_get' h
    exact ⟨z, by simpa using h1, h2⟩
def eIndex (fa fb : PF) : PF := fun ρ => (fa ρ).bind fun x => match cont x.2 x.1 with
  | some (.lst _) => (fb x.2).bind fun y => (cont y.2 x.1).bind fun p => (cont y.2 y.1).bind fun q => match p with
    | .lst xs => if datN 60 (.lst xs) = true ∧ datN 60 q = true then (idxP q xs).map fun j => (.fz (.int (j : Nat)), y.2) else none
    | _ => none
  | _ => none
section
variable {X : Cx} {R : RE} {a b : Expr} {fa fb : PF} {pos apos : Pos}
theorem eIndex_some {ρ ρ' : List Sl} {r : Sl} (q : eIndex fa fb ρ = some (r, ρ')) : ∃ r1 ρ1 ys r2 xs p j, fa ρ = some (r1, ρ1) ∧ cont ρ1 r1 = some (.lst ys) ∧ fb ρ1 = some (r2, ρ') ∧ cont ρ' r1 = some (.lst xs) ∧ cont ρ' r2 = some p ∧ datN 60 (.lst xs) = true ∧ datN 60 p = true ∧ idxP p xs = some j ∧ r = .fz (.int (j : Nat)) := by
  unfold eIndex at q
  rw [Option.bind_eq_some_iff] at q
  obtain ⟨⟨r1, ρ1⟩, h1, q⟩ := q
  split at q
  · rename_i ys h2
    rw [Option.bind_eq_some_iff] at q
    obtain ⟨⟨r2, ρ2⟩, h3, q⟩ := q
    rw [Option.bind_eq_some_iff] at q
    obtain ⟨pp, h4, q⟩ := q
    rw [Option.bind_eq_some_iff] at q
    obtain ⟨p, h5, q⟩ := q
    split at q
    · rename_i xs
      split at q
      · rename_i c
        rw [Option.map_eq_some_iff] at q
        obtain ⟨j, h6, q⟩ := q
        cases q
        exact ⟨r1, ρ1, ys, r2, xs, p, j, h1, h2, h3, h4, h5, c.1, c.2, h6, rfl⟩
      · cases q
    · cases q
  · cases q
theorem ev_index (hu : X.A.units + 65 < cLine) (hK : R.K = X.K) (ha : Ev X R a fa) (hb : Ev X R b fb) (hbase : attributeBase a "index" X.env (eval a X.env) = eval a X.env := by rfl)
    (h1 : ((((backTo pos (starEach [b] X.env)).all fun x => !x.fst) && (backToKw pos (keywordEach [] X.env)).all fun x => x.fst.isSome) && decide (([b].length + ([] : List Keyword).length + if ([] : List Keyword).isEmpty = true then 0 else 1) < 30)) = true := by rfl)
    (hline : (apos.endLine == pos.line) = true := by rfl) (he : starEach [b] X.env = (false, eval b X.env) :: starEach [] X.env := by rfl) (hpl : ((backTo pos (starEach [] X.env)).any fun x => x.fst) = false := by rfl) :
    Ev X R (.Call (.Attribute a "index" apos) [b] [] pos) (eIndex fa fb) := by
  refine ⟨fun ρ r ρ' q => ?_, pe_mono (pe_bm PySem.F.plainAttrs_list PySem.F.slot_list_index PySem.F.type_list_index (mt_indexD hu) ha.pe (pa_cons hb.pe pa_nil he) hbase h1 hline he hpl) fun σ H Q q => ?_⟩
  · obtain ⟨r1, ρ1, ys, r2, xs, p, j, q1, _, q2, _⟩ := eIndex_some q
    exact (hb.len _ _ _ q2).trans (ha.len _ _ _ q1)
  · obtain ⟨e, F, ρ, tm, r, ρ', hl, hB, hf, k⟩ := q
    obtain ⟨r1, ρ1, ys, r2, xs, p, j, q1, c1, q2, c2, c3, d1, d2, ij, rfl⟩ := eIndex_some hf
    have l1 := ha.len _ _ _ q1
    have l2 := hb.len _ _ _ q2
    refine ⟨e, F, ρ, tm, r1, ρ1, hl, hB, q1, fun x H1 F1 B1 k1 => ⟨?_, ?_⟩⟩
    · have B1' : Bag R e F1 H1 (ρ1.zip σ ++ tm ++ ([r1].map tmpOf).zip ([x].map some)) := B1
      obtain ⟨rq, B2⟩ := Bag.conts B1' (.cons k1 .nil) (ps := [.lst ys]) (by unfold PL.conts; rw [c1]; rfl)
      cases rq with
      | cons rq _ =>
        obtain ⟨ad, vs, rfl, h2, _⟩ := rq.lst B2.sub
        exact .inl ⟨rfl, _, SqL.of h2⟩
    · refine ⟨e, F1, ρ1, tm ++ [(tmpOf r1, some x)], r2, ρ', by omega, by rw [← List.append_assoc]; exact B1, q2, fun y H2 F2 B2 k2 => ?_⟩
      have B2' : Bag R e F2 H2 (ρ'.zip σ ++ tm ++ ([r1, r2].map tmpOf).zip ([x, y].map some)) := by
        have e1 : ([r1, r2].map tmpOf).zip ([x, y].map some) = [(tmpOf r1, some x)] ++ [(tmpOf r2, some y)] := rfl
        rw [e1, ← List.append_assoc, List.append_assoc (ρ'.zip σ)]
        exact B2
      obtain ⟨rq, B3⟩ := Bag.conts B2' (.cons k1 (.cons k2 .nil)) (ps := [.lst xs, p]) (by unfold PL.conts; rw [c2]; unfold PL.conts; rw [c3]; rfl)
      cases rq with
      | cons rq1 rq =>
        cases rq with
        | cons rq2 _ =>
          have dp1 := rq1.dp B3.sub d1
          have dp2 := rq2.dp B3.sub d2
          rw [hK] at dp1 dp2
          obtain ⟨ad, vs, rfl, h2, _⟩ := rq1.lst B3.sub
          obtain ⟨⟨z, g1, g2⟩, g3⟩ := idxP_spec ij
          have dz : ∀ {m : Nat} {z : PV}, xs[m]? = some z → datN 59 z = true := fun {m z} g => by
            have h3 : datNs 59 xs = true := d1
            rw [datNs_all] at h3
            exact List.all_eq_true.mp h3 z (List.mem_of_getElem? g)
          refine ⟨ad, y, toD p, toDs xs, j, toD z, rfl, rfl, dp1, dp2, shaped_toD d1, shaped_toD d2, toDs_get g1, by rw [eqv_toD 59 60 z p (dz g1) d2]; exact g2, fun m z' hm g => ?_, ?_⟩
          · obtain ⟨z2, g4, rfl⟩ := toDs_get' g
            rw [eqv_toD 59 60 z2 p (dz g4) d2]
            exact g3 m z2 hm g4
          · exact k _ H2 F2 (B3.push_fz (.int _)) pk_fz
end
/-- no promise at all -/
theorem fn_none {P : Program} {w : World} {K : PySem.W.Frag} {mg : Str → Option Value} {base : Heap} {R : RE} {x qual : Str} {st : Stmt} {f : Addr} {fd : FuncData} {N ps : List Str} {k : Nat} (F : Fun K x qual st f fd) (S : FnScope N ps (defScope st)) : FnP P w K mg base R (k + 1) f fd ps (fun _ => none) :=
  ⟨fun as r as' l q => (nomatch q), F.ok S (fun vs H Q E h => h.1) fun cdv A outer s H vs Q E hr h => by
    obtain ⟨lv, F0, as, r, as', la, _, hf, _⟩ := h
    cases hf⟩
end PL
set_option Elab.async false
set_option linter.all false
set_option maxRecDepth 100000
set_option maxHeartbeats 4000000
/-! PLu: lists and tuples of ranges. -/
namespace PL
open PySem PySem.Spec PyProof.Rows L2
/-- list(range(..)) (or tuple), told by what range walks -/
def eListRg (w : PIF) : PF := fun ρ => (w ρ).bind fun x => match x.2.1 with
  | [] => some (.own x.1, x.2.2)
  | _ => none
def eTupRg (w : PIF) : PF := fun ρ => (w ρ).bind fun x => match x.2.1 with
  | [] => some (.fz (.tup x.1), x.2.2)
  | _ => none
section
variable {X : Cx} {R : RE} {a b : Expr} {fa fb : PF} {p pos p2 pos2 : Pos}
theorem rg1_some {ρ ρ' : List Sl} {items : List PV} {rs : List Sl} (q : iRange1 fa ρ = some (items, rs, ρ')) : ∃ j, fa ρ = some (.fz (.int j), ρ') ∧ (-lineN ≤ j ∧ j ≤ lineN) ∧ items = rangeP 0 j.toNat ∧ rs = [] := by
  unfold iRange1 at q
  rw [Option.bind_eq_some_iff] at q
  obtain ⟨⟨r, ρ1⟩, h1, q⟩ := q
  split at q
  · rename_i j e1
    dsimp only at e1
    subst e1
    split at q
    · cases q; exact ⟨j, h1, by assumption, rfl, rfl⟩
    · cases q
  · cases q
theorem rg2_some {ρ ρ' : List Sl} {items : List PV} {rs : List Sl} (q : iRange2 fa fb ρ = some (items, rs, ρ')) : ∃ i j ρ1, fa ρ = some (.fz (.int i), ρ1) ∧ fb ρ1 = some (.fz (.int j), ρ') ∧ (-(2 ^ 62) ≤ i ∧ j < 2 ^ 62 ∧ i < 2 ^ 62 ∧ -(2 ^ 62) ≤ j ∧ j - i ≤ lineN) ∧ items = rangeP i (j - i).toNat ∧ rs = [] := by
  unfold iRange2 at q
  rw [Option.bind_eq_some_iff] at q
  obtain ⟨⟨r, ρ1⟩, h1, q⟩ := q
  rw [Option.bind_eq_some_iff] at q
  obtain ⟨⟨r2, ρ2⟩, h2, q⟩ := q
  split at q
  · rename_i i j e1 e2
    dsimp only at e1 e2
    subst e1 e2
    split at q
    · cases q; exact ⟨i, j, ρ1, h1, h2, by assumption, rfl, rfl⟩
    · cases q
  · cases q
theorem rpl_range {F : Hp} (lo : Int) (n : Nat) : RpL R F (rangeP lo n) ((List.range n).map fun i => V.int (lo + (i : Nat))) := by
  unfold rangeP
  have : ∀ ks : List Nat, RpL R F (ks.map fun k => PV.int (lo + (k : Nat))) (ks.map fun i => V.int (lo + (i : Nat))) := by
    intro ks
    induction ks with
    | nil => exact .nil
    | cons k ks ih => exact .cons (.int _) ih
  exact this _
theorem listRg_some {w : PIF} {ρ ρ' : List Sl} {r : Sl} (q : eListRg w ρ = some (r, ρ')) : ∃ items, w ρ = some (items, [], ρ') ∧ r = .own items := by
  unfold eListRg at q
  rw [Option.bind_eq_some_iff] at q
  obtain ⟨⟨items, rs, ρ1⟩, h1, q⟩ := q
  split at q
  · rename_i e
    dsimp only at e
    subst e
    cases q
    exact ⟨items, h1, rfl⟩
  · cases q
theorem ev_listRg1 (hc : X.calm = true) (hl : Gl X "list") (hml : X.mg "list" = none) (hg : Gl X "range") (hm : X.mg "range" = none) (ha : Ev X R a fa) (h1 : starEach [a] X.env = (false, eval a X.env) :: starEach [] X.env := by rfl)
    (h2 : starEach [.Call (.Name "range" p2) [a] [] pos2] X.env = (false, eval (.Call (.Name "range" p2) [a] [] pos2) X.env) :: starEach [] X.env := by rfl) :
    Ev X R (.Call (.Name "list" p) [.Call (.Name "range" p2) [a] [] pos2] [] pos) (eListRg (iRange1 fa)) := by
  refine ⟨fun ρ r ρ' q => ?_, pe_mono (pe_listRg hc hl hml (prg_1 hg hm ha.pe h1) h2) fun σ H Q q => ?_⟩
  · obtain ⟨items, q, _⟩ := listRg_some q
    obtain ⟨j, q, _⟩ := rg1_some q
    exact ha.len _ _ _ q
  · obtain ⟨e, F, ρ, tm, r, ρ', hl, hB, hf, k⟩ := q
    obtain ⟨items, hf2, rfl⟩ := listRg_some hf
    obtain ⟨j, q1, hj, rfl, _⟩ := rg1_some hf2
    refine ⟨e, F, ρ, tm, _, ρ', hl, hB, q1, fun x H1 F1 B1 _ => ?_⟩
    have ex := (B1.rq_fz (x := x) (p := .int j) app_last).int
    have hL : (lineN : Int) = 16777216 := rfl
    refine ⟨j, ex, ⟨by decide, by decide, by omega, by omega, by omega⟩, fun q nq => ?_⟩
    have e1 : rgV 0 j = (List.range j.toNat).map fun i => V.int (0 + (i : Nat)) := by unfold rgV; rw [Int.sub_zero]
    rw [e1]
    exact k _ _ F1 (B1.pop.new_lst nq (rpl_range 0 j.toNat)) pk_own
theorem ev_listRg2 (hc : X.calm = true) (hl : Gl X "list") (hml : X.mg "list" = none) (hg : Gl X "range") (hm : X.mg "range" = none) (ha : Ev X R a fa) (hb : Ev X R b fb) (h1 : starEach [a, b] X.env = (false, eval a X.env) :: starEach [b] X.env := by rfl) (h1b : starEach [b] X.env = (false, eval b X.env) :: starEach [] X.env := by rfl)
    (h1c : ((backTo pos2 (starEach [b] X.env)).any fun x => x.fst) = false := by rfl)
    (h2 : starEach [.Call (.Name "range" p2) [a, b] [] pos2] X.env = (false, eval (.Call (.Name "range" p2) [a, b] [] pos2) X.env) :: starEach [] X.env := by rfl) :
    Ev X R (.Call (.Name "list" p) [.Call (.Name "range" p2) [a, b] [] pos2] [] pos) (eListRg (iRange2 fa fb)) := by
  refine ⟨fun ρ r ρ' q => ?_, pe_mono (pe_listRg hc hl hml (prg_2 hg hm ha.pe hb.pe h1 h1b h1c) h2) fun σ H Q q => ?_⟩
  · obtain ⟨items, q, _⟩ := listRg_some q
    obtain ⟨i, j, ρ1, q1, q2, _⟩ := rg2_some q
    exact (hb.len _ _ _ q2).trans (ha.len _ _ _ q1)
  · obtain ⟨e, F, ρ, tm, r, ρ', hl, hB, hf, k⟩ := q
    obtain ⟨items, hf2, rfl⟩ := listRg_some hf
    obtain ⟨i, j, ρ1, q1, q2, hj, rfl, _⟩ := rg2_some hf2
    have l1 := ha.len _ _ _ q1
    refine ⟨e, F, ρ, tm, _, ρ1, hl, hB, q1, fun x H1 F1 B1 _ => ?_⟩
    have ex := (B1.rq_fz (x := x) (p := .int i) app_last).int
    refine ⟨e, F1, ρ1, tm, _, ρ', by omega, B1.pop, q2, fun y H2 F2 B2 _ => ?_⟩
    have ey := (B2.rq_fz (x := y) (p := .int j) app_last).int
    have hL : (lineN : Int) = 16777216 := rfl
    refine ⟨i, j, ex, ey, ⟨hj.1, hj.2.2.1, hj.2.2.2.1, hj.2.1, by omega⟩, fun q nq => ?_⟩
    exact k _ _ F2 (B2.pop.new_lst nq (rpl_range i (j - i).toNat)) pk_own
end
end PL
set_option Elab.async false
set_option linter.all false
set_option maxRecDepth 100000
set_option maxHeartbeats 4000000
/-! PLv: arguments that are lent at the call itself (later arguments may use them before). -/
namespace PL
open PySem PySem.Spec PyProof.Rows L2
def resv : List Sl → List Sl → Option (List Sl × List Sl)
  | [], ρ => some ([], ρ)
  | .pk i :: rs, ρ => match ρ[i]? with
    | some (.fz p) => (resv rs ρ).map fun y => (.fz p :: y.1, y.2)
    | some (.own xs) => (resv rs (ρ.set i .moved)).map fun y => (.br i (.own xs) :: y.1, y.2)
    | _ => none
  | r :: rs, ρ => (resv rs ρ).map fun y => (r :: y.1, y.2)
def aRes (fs : PFs) : PFs := fun ρ => (fs ρ).bind fun x => resv x.1 x.2
theorem resv_len : ∀ (rs ρ qs ρ' : List Sl), resv rs ρ = some (qs, ρ') → qs.length = rs.length ∧ ρ'.length = ρ.length
  | [], ρ, qs, ρ', h => by cases h; exact ⟨rfl, rfl⟩
  | r :: rs, ρ, qs, ρ', h => by
    have gen : ∀ (q : Sl) (τ : List Sl), τ.length = ρ.length → (resv rs τ).map (fun y => (q :: y.1, y.2)) = some (qs, ρ') → qs.length = (r :: rs).length ∧ ρ'.length = ρ.length := fun q τ hτ g => by
      rw [Option.map_eq_some_iff] at g
      obtain ⟨⟨ys, τ'⟩, h1, g⟩ := g
      cases g
      obtain ⟨l1, l2⟩ := resv_len rs τ _ _ h1
      exact ⟨by rw [List.length_cons, List.length_cons, l1], l2.trans hτ⟩
    cases r with
    | pk i =>
      unfold resv at h
      split at h
      · exact gen _ _ rfl h
      · exact gen _ _ (List.length_set) h
      · cases h
    | _ => exact gen _ _ rfl h
section
variable {R : RE} {e : En} {F H : Hp}
theorem Bag.resv {σ : L2.St} : ∀ {rs ρ qs ρ' : List Sl} {xs : List V} {T : Bg}, ρ.length = σ.length → PL.resv rs ρ = some (qs, ρ') → Paired (fun r x => PkOk r σ x) rs xs → Bag R e F H (ρ.zip σ ++ T ++ (rs.map tmpOf).zip (xs.map some)) →
    Bag R e F H (ρ'.zip σ ++ T ++ (qs.map tmpOf).zip (xs.map some)) ∧ Paired (fun r x => PkOk r σ x) qs xs
  | [], ρ, qs, ρ', [], T, _, h, _, hB => by cases h; exact ⟨hB, .nil⟩
  | r :: rs, ρ, qs, ρ', x :: xs, T, hl, h, .cons k ks, hB => by
    have e1 : ∀ (q : Sl) (us : List Sl), ((q :: us).map tmpOf).zip ((x :: xs).map some) = [(tmpOf q, some x)] ++ (us.map tmpOf).zip (xs.map some) := fun _ _ => rfl
    have plain : ∀ (q : Sl) (τ : List Sl), τ.length = σ.length → PkOk q σ x → (PL.resv rs τ).map (fun y => (q :: y.1, y.2)) = some (qs, ρ') → Bag R e F H (τ.zip σ ++ (T ++ [(tmpOf q, some x)]) ++ (rs.map tmpOf).zip (xs.map some)) →
        Bag R e F H (ρ'.zip σ ++ T ++ (qs.map tmpOf).zip ((x :: xs).map some)) ∧ Paired (fun r x => PkOk r σ x) qs (x :: xs) := fun q τ hτ hk g hB' => by
      rw [Option.map_eq_some_iff] at g
      obtain ⟨⟨ys, τ'⟩, h1, g⟩ := g
      cases g
      obtain ⟨B2, k2⟩ := Bag.resv hτ h1 ks hB'
      refine ⟨?_, .cons hk k2⟩
      rw [e1, ← List.append_assoc, List.append_assoc (τ'.zip σ)]
      exact B2
    have swap : ∀ (τ : List Sl) (s : Sl), Bag R e F H (τ.zip σ ++ (T ++ ((.un, some x) :: (rs.map tmpOf).zip (xs.map some))) ++ [(s, some x)]) → Bag R e F H (τ.zip σ ++ (T ++ [(s, some x)]) ++ (rs.map tmpOf).zip (xs.map some)) := fun τ s hB' => by
      have h1 : Bag R e F H (τ.zip σ ++ (T ++ (rs.map tmpOf).zip (xs.map some)) ++ [(s, some x)]) := hB'.sublist (((List.Sublist.refl _).append ((List.Sublist.refl _).append (List.sublist_cons_self _ _))).append (List.Sublist.refl _))
      refine h1.perm ?_
      rw [List.append_assoc, List.append_assoc (τ.zip σ), List.append_assoc T, List.append_assoc T]
      exact (List.Perm.refl _).append ((List.Perm.refl _).append List.perm_append_comm)
    have other : tmpOf r = tmpOf r → (∀ i, r ≠ .pk i) → PL.resv (r :: rs) ρ = (PL.resv rs ρ).map (fun y => (r :: y.1, y.2)) := fun _ hn => by
      cases r with
      | pk i => exact absurd rfl (hn i)
      | _ => rfl
    by_cases hp : ∃ i, r = .pk i
    · obtain ⟨i, rfl⟩ := hp
      have hx : σ[i]? = some (some x) := k i (.inl rfl)
      have hB1 : Bag R e F H (ρ.zip σ ++ (T ++ ((.un, some x) :: (rs.map tmpOf).zip (xs.map some)))) := by
        rw [← List.append_assoc]
        exact hB
      unfold PL.resv at h
      split at h
      · rename_i p g
        obtain ⟨o, h2, h3, y, ey, h4⟩ := slot_some hB1 hl g
        rw [hx] at h2
        cases h2
        cases ey
        exact plain (.fz p) ρ hl pk_fz h (swap ρ _ (hB1.push_fz h4))
      · rename_i zs g
        have h3 := lend hB1 hl g hx
        refine plain (.br i (.own zs)) (ρ.set i .moved) (by rw [List.length_set]; exact hl) (fun j z => ?_) h (swap _ _ h3)
        rcases z with z | ⟨_, z⟩ <;> cases z
        exact hx
      · cases h
    · have hn : ∀ i, r ≠ .pk i := fun i z => hp ⟨i, z⟩
      rw [other rfl hn] at h
      refine plain r ρ hl k h ?_
      rw [← List.append_assoc, List.append_assoc (ρ.zip σ ++ T)]
      exact hB
  | [], _, _, _, _ :: _, _, _, _, k, _ => by cases k
  | _ :: _, _, _, _, [], _, _, _, k, _ => by cases k
end
theorem av_res {X : Cx} {R : RE} {es : List Expr} {fs : PFs} (h : Av X R es fs) : Av X R es (aRes fs) := by
  have key : ∀ {ρ ρ' : List Sl} {qs : List Sl}, aRes fs ρ = some (qs, ρ') → ∃ rs ρ1, fs ρ = some (rs, ρ1) ∧ resv rs ρ1 = some (qs, ρ') := by
    intro ρ ρ' qs q
    unfold aRes at q
    rw [Option.bind_eq_some_iff] at q
    obtain ⟨⟨rs, ρ1⟩, h1, q⟩ := q
    exact ⟨rs, ρ1, h1, q⟩
  refine ⟨fun ρ r ρ' q => ?_, fun ρ r ρ' q => ?_, pa_mono h.pa fun σ H Q q => ?_⟩
  · obtain ⟨rs, ρ1, q1, q2⟩ := key q
    exact (resv_len _ _ _ _ q2).2.trans (h.len _ _ _ q1)
  · obtain ⟨rs, ρ1, q1, q2⟩ := key q
    exact (resv_len _ _ _ _ q2).1.trans (h.cnt _ _ _ q1)
  · obtain ⟨e, F, ρ, tm, qs, ρ', hl, hB, hf, k⟩ := q
    obtain ⟨rs, ρ1, q1, q2⟩ := key hf
    refine ⟨e, F, ρ, tm, rs, ρ1, hl, hB, q1, fun xs H1 F1 B1 k1 => ?_⟩
    obtain ⟨B2, k2⟩ := Bag.resv ((h.len _ _ _ q1).trans hl) q2 k1 B1
    exact k xs H1 F1 B2 k2
end PL
set_option Elab.async false
set_option linter.all false
set_option maxRecDepth 100000
set_option maxHeartbeats 4000000
/-! PLw: sum of a tuple of ints. -/
namespace PL
open PySem PySem.Spec PyProof.Rows L2
theorem preSum_getD : ∀ (ns : List Int) (n : Nat), n ≤ ns.length → preSum (fun i => ns.getD i 0) n = (ns.take n).sum
  | ns, 0, _ => by simp [preSum]
  | ns, n + 1, h => by
    have ih := preSum_getD ns n (by omega)
    have e : ns.take (n + 1) = ns.take n ++ [ns.getD n 0] := by
      rw [List.take_add_one, List.getD_eq_getElem?_getD, List.getElem?_eq_getElem (by omega)]; rfl
    rw [e, List.sum_append, ← ih]
    simp [preSum]
def rSumT (K : PySem.W.Frag) (vs : List V) (H : Hp) (Q : VK) : Prop := ∃ (a : Addr) (ns : List Int), vs = [V.ref a] ∧ SqT K H a (ns.map V.int) ∧ Q (.int ns.sum) H
section
variable {X : Cx}
theorem cr_sumT (hc : X.calm = true) : CallR X (.builtin "sum") (rSumT X.K) := by
  intro pins s σ H xs us Q I rv ⟨a, ns, e, hq, k⟩
  subst e
  match us, rv with
  | [_], .cons r .nil =>
    cases r
    refine call_sum_walkG (tup_walk I hq (I.ok.hd hc) fun its ri w _ hfp hst hI => ?_)
    refine ⟨_, _, _, _, _, _, fun i => ns.getD i 0, rfl, w, hst, hfp, fun i v g => vals_ints_get ri g, fun h' tk t' hk => ?_⟩
    rw [preSum_getD ns ns.length (Nat.le_refl _), List.take_length]
    exact ⟨.int _, H, hI h' tk hk, ⟨_, rfl⟩, k⟩
end
def clSum2 : List PV → Option Vl := fun ps => match clSum ps with
  | some r => some r
  | none => match ps with
    | [.tup xs] => (intsOf xs).map fun ns => .fz (.int ns.sum)
    | _ => none
theorem cok_sum2 {R : RE} : CallOk R clSum2 (fun xs H Q => rSum R.K xs H Q ∨ rSumT R.K xs H Q) := by
  refine cok_sum.or (op' := fun ps => match ps with
    | [.tup xs] => (intsOf xs).map fun ns => .fz (.int ns.sum)
    | _ => none) ?_
  intro e F H B ps xs r Q hB hp ho k
  dsimp only at ho
  split at ho
  · rename_i zs
    rw [Option.map_eq_some_iff] at ho
    obtain ⟨ns, h1, rfl⟩ := ho
    obtain ⟨x, rfl, q⟩ := hp.one
    obtain ⟨a, vs, rfl, h2, r1⟩ := q.tup hB.sub
    rw [intsOf_eq h1] at r1
    rw [r1.ints] at h2
    exact ⟨a, ns, rfl, h2, k _ H F (hB.push_fz (.int _))⟩
  · cases ho
end PL
set_option Elab.async false
set_option linter.all false
set_option maxRecDepth 100000
set_option maxHeartbeats 4000000
/-! PLx: steps of the raw functions, one construct each. -/
namespace PL
open PySem
theorem stBin {op : PV → PV → Option Vl} {f g : PF} {ρ ρ1 ρ2 : List Sl} {r s : Sl} {p q : PV} {v : Vl} (h1 : f ρ = some (r, ρ1)) (h2 : g ρ1 = some (s, ρ2)) (c1 : cont ρ2 r = some p) (c2 : cont ρ2 s = some q) (h : op p q = some v) : eBin op f g ρ = some (v.sl, ρ2) := by
  unfold eBin
  rw [h1, Option.bind_some, h2, Option.bind_some, c1, Option.bind_some, c2, Option.bind_some, h]; rfl
theorem stNary {op : List PV → Option Vl} {fs : PFs} {ρ ρ1 : List Sl} {rs : List Sl} {ps : List PV} {v : Vl} (h1 : fs ρ = some (rs, ρ1)) (h2 : conts ρ1 rs = some ps) (h : op ps = some v) : eNary op fs ρ = some (v.sl, ρ1) := by
  unfold eNary
  rw [h1, Option.bind_some, h2, Option.bind_some, h]; rfl
theorem stCons {f : PF} {fs : PFs} {ρ ρ1 ρ2 : List Sl} {r : Sl} {rs : List Sl} (h1 : f ρ = some (r, ρ1)) (h2 : fs ρ1 = some (rs, ρ2)) : aCons f fs ρ = some (r :: rs, ρ2) := by
  unfold aCons
  rw [h1, Option.bind_some, h2]; rfl
theorem stOne {f : PF} {ρ ρ1 : List Sl} {r : Sl} (h1 : f ρ = some (r, ρ1)) : aCons f aNil ρ = some ([r], ρ1) := stCons h1 rfl
theorem stCall {f : FP} {fs : PFs} {ρ ρ1 : List Sl} {v : Vl} {rs ss : List Sl} (h1 : fs ρ = some (rs, ρ1)) (h2 : f (rs.map tmpOf) = some (v, ss)) : eCall f fs ρ = some (v.sl, putB rs ss ρ1) := by
  unfold eCall
  rw [h1, Option.bind_some, h2]; rfl
theorem stSet {fa : PF} {ρ ρ1 : List Sl} {r : Sl} {v : Vl} {i : Nat} (h : fa ρ = some (r, ρ1)) (hv : toVl r = some v) : sSet i fa ρ = some (.nx, ρ1.set i v.sl) := by
  unfold sSet
  rw [h, Option.bind_some, hv]; rfl
theorem stRet {fa : PF} {ρ ρ1 : List Sl} {r : Sl} {v : Vl} (h : fa ρ = some (r, ρ1)) (hv : toVl r = some v) : sRet fa ρ = some (.rt v, ρ1) := by
  unfold sRet
  rw [h, Option.bind_some, hv]; rfl
theorem stOf {fa : PF} {ρ ρ1 : List Sl} {b : Bool} (h : fa ρ = some (.fz (.bl b), ρ1)) : tOf fa ρ = some (b, ρ1) := by
  unfold tOf
  rw [h]; rfl
theorem stIf {t : PT'} {f g : PSF} {ρ ρ1 : List Sl} {b : Bool} (h : t ρ = some (b, ρ1)) : sIf t f g ρ = if b = true then f ρ1 else g ρ1 := by
  unfold sIf
  rw [h]; rfl
theorem stNx {f g : PSF} {ρ ρ1 : List Sl} (h : f ρ = some (.nx, ρ1)) : sSeq f g ρ = g ρ1 := by
  unfold sSeq
  rw [h, Option.bind_some]
theorem stRt {f g : PSF} {ρ ρ1 : List Sl} {v : Vl} (h : f ρ = some (.rt v, ρ1)) : sSeq f g ρ = some (.rt v, ρ1) := by
  unfold sSeq
  rw [h, Option.bind_some]
theorem stExpr {fa : PF} {ρ ρ1 : List Sl} {r : Sl} (h : fa ρ = some (r, ρ1)) : sExpr fa ρ = some (.nx, ρ1) := by
  unfold sExpr
  rw [h]; rfl
theorem stFor {w : PIF} {g : PGF} {body : PSF} {ρ ρ1 ρ2 : List Sl} {items : List PV} {rs : List Sl} {fl : Fl} (h : w ρ = some (items, rs, ρ1)) (h2 : forP g body items ρ1 = some (fl, ρ2)) : sFor w g body ρ = some (fl, ρ2) := by
  unfold sFor
  rw [h, Option.bind_some]
  exact h2
theorem stRange1 {f : PF} {ρ ρ1 : List Sl} {n : Nat} {i : Int} (h : f ρ = some (.fz (.int i), ρ1)) (hi : i = (n : Int)) (hn : n ≤ 100000) : iRange1 f ρ = some (rangeP 0 n, [], ρ1) := by
  unfold iRange1
  rw [h, Option.bind_some, hi]
  have hc : -(lineN : Int) ≤ (n : Int) ∧ (n : Int) ≤ (lineN : Int) := by
    unfold lineN
    exact ⟨by omega, by omega⟩
  simp only [hc, and_self, if_true, Int.toNat_natCast]
theorem stRange2 {f g : PF} {ρ ρ1 ρ2 : List Sl} {i j : Int} (h1 : f ρ = some (.fz (.int i), ρ1)) (h2 : g ρ1 = some (.fz (.int j), ρ2)) (hi : -100000 ≤ i ∧ i ≤ 100000) (hj : -100000 ≤ j ∧ j ≤ 100000) : iRange2 f g ρ = some (rangeP i (j - i).toNat, [], ρ2) := by
  unfold iRange2
  rw [h1, Option.bind_some]
  simp only [h2, Option.bind_some]
  have hc : -(2 ^ 62) ≤ i ∧ j < 2 ^ 62 ∧ i < 2 ^ 62 ∧ -(2 ^ 62) ≤ j ∧ j - i ≤ (lineN : Int) := by
    unfold lineN
    refine ⟨?_, ?_, ?_, ?_, ?_⟩ <;> omega
  rw [if_pos hc]
theorem stAnd {f g : PF} {ρ ρ1 ρ2 : List Sl} {r : Sl} {b : Bool} (h1 : f ρ = some (.fz (.bl b), ρ1)) (h2 : b = true → g ρ1 = some (r, ρ2)) (h3 : b = false → r = .fz (.bl false) ∧ ρ2 = ρ1) : eAndF f g ρ = some (r, ρ2) := by
  unfold eAndF
  rw [stOf h1]
  cases b with
  | true => exact h2 rfl
  | false => obtain ⟨rfl, rfl⟩ := h3 rfl; rfl
theorem stNot {t : PT'} {ρ ρ1 : List Sl} {b : Bool} (h : t ρ = some (b, ρ1)) : tNotF t ρ = some (!b, ρ1) := by
  unfold tNotF
  rw [h]; rfl
theorem stLstAdd {f g : PF} {ρ ρ1 ρ2 : List Sl} {r s : Sl} {xs ys : List PV} (h1 : f ρ = some (r, ρ1)) (h2 : g ρ1 = some (s, ρ2)) (c1 : cont ρ2 r = some (.lst xs)) (c2 : cont ρ2 s = some (.lst ys)) (hl : xs.length + ys.length ≤ 100000) : eBin opAdd f g ρ = some (.own (xs ++ ys), ρ2) := by
  have : xs.length + ys.length ≤ lineN := by unfold lineN; omega
  exact stBin (v := .own (xs ++ ys)) h1 h2 c1 c2 (by unfold opAdd; exact if_pos this)
theorem stPk {i : Nat} {ρ : List Sl} {p : PV} (h : ρ[i]? = some (.fz p)) : ePk i ρ = some (.fz p, ρ) := by
  unfold ePk
  rw [h]
theorem stPkO {i : Nat} {ρ : List Sl} {xs : List PV} (h : ρ[i]? = some (.own xs)) : ePk i ρ = some (.pk i, ρ) := by
  unfold ePk
  rw [h]
theorem stVar {i : Nat} {ρ : List Sl} {p : PV} (h : ρ[i]? = some (.fz p)) : eVar i ρ = some (.fz p, ρ) := by
  unfold eVar
  rw [h]
theorem stVarO {i : Nat} {ρ : List Sl} {xs : List PV} (h : ρ[i]? = some (.own xs)) : eVar i ρ = some (.fz (.lst xs), ρ.set i (.fz (.lst xs))) := by
  unfold eVar
  rw [h]
theorem stBor {i : Nat} {ρ : List Sl} {xs : List PV} (h : ρ[i]? = some (.own xs)) : eBor i ρ = some (.br i (.own xs), ρ.set i .moved) := by
  unfold eBor
  rw [h]
theorem stMv {i : Nat} {ρ : List Sl} {xs : List PV} (h : ρ[i]? = some (.own xs)) : eMv i ρ = some (.own xs, ρ.set i .moved) := by
  unfold eMv
  rw [h]
theorem stC {p : PV} {ρ : List Sl} : eC p ρ = some (.fz p, ρ) := rfl
theorem stNil {ρ : List Sl} : aNil ρ = some ([], ρ) := rfl
theorem stNeg {f : PF} {ρ ρ1 : List Sl} {i : Int} (h : f ρ = some (.fz (.int i), ρ1)) : eNeg f ρ = some (.fz (.int (-i)), ρ1) := by
  unfold eNeg
  rw [h]; rfl
theorem stNotE {f : PF} {ρ ρ1 : List Sl} {b : Bool} (h : f ρ = some (.fz (.bl b), ρ1)) : eNotF f ρ = some (.fz (.bl (!b)), ρ1) := by
  unfold eNotF
  rw [stOf h]; rfl
theorem stAndT {f g : PF} {ρ ρ1 : List Sl} {b : Bool} {z : Option (Sl × List Sl)} (h1 : f ρ = some (.fz (.bl b), ρ1)) (hb : b = true) (h2 : g ρ1 = z) : eAndF f g ρ = z := by
  unfold eAndF
  rw [stOf h1, hb]; exact h2
theorem stAndN {f g : PF} {ρ ρ1 : List Sl} {b : Bool} (h1 : f ρ = some (.fz (.bl b), ρ1)) (hb : b = false) : eAndF f g ρ = some (.fz (.bl false), ρ1) := by
  unfold eAndF
  rw [stOf h1, hb]; rfl
theorem stOrN {f g : PF} {ρ ρ1 : List Sl} {b : Bool} {z : Option (Sl × List Sl)} (h1 : f ρ = some (.fz (.bl b), ρ1)) (hb : b = false) (h2 : g ρ1 = z) : eOrF f g ρ = z := by
  unfold eOrF
  rw [stOf h1, hb]; exact h2
theorem stOrT {f g : PF} {ρ ρ1 : List Sl} {b : Bool} (h1 : f ρ = some (.fz (.bl b), ρ1)) (hb : b = true) : eOrF f g ρ = some (.fz (.bl true), ρ1) := by
  unfold eOrF
  rw [stOf h1, hb]; rfl
theorem stTAndT {f g : PT'} {ρ ρ1 : List Sl} {b : Bool} {z : Option (Bool × List Sl)} (h1 : f ρ = some (b, ρ1)) (hb : b = true) (h2 : g ρ1 = z) : tAndF f g ρ = z := by
  unfold tAndF
  rw [h1, hb]; exact h2
theorem stTAndN {f g : PT'} {ρ ρ1 : List Sl} {b : Bool} (h1 : f ρ = some (b, ρ1)) (hb : b = false) : tAndF f g ρ = some (false, ρ1) := by
  unfold tAndF
  rw [h1, hb]; rfl
theorem stTOrN {f g : PT'} {ρ ρ1 : List Sl} {b : Bool} {z : Option (Bool × List Sl)} (h1 : f ρ = some (b, ρ1)) (hb : b = false) (h2 : g ρ1 = z) : tOrF f g ρ = z := by
  unfold tOrF
  rw [h1, hb]; exact h2
theorem stTOrT {f g : PT'} {ρ ρ1 : List Sl} {b : Bool} (h1 : f ρ = some (b, ρ1)) (hb : b = true) : tOrF f g ρ = some (true, ρ1) := by
  unfold tOrF
  rw [h1, hb]; rfl
theorem stIfT {t : PT'} {f g : PSF} {ρ ρ1 : List Sl} {b : Bool} {z : Option (Fl × List Sl)} (h : t ρ = some (b, ρ1)) (hb : b = true) (h2 : f ρ1 = z) : sIf t f g ρ = z := by
  unfold sIf
  rw [h, hb]; exact h2
theorem stIfN {t : PT'} {f g : PSF} {ρ ρ1 : List Sl} {b : Bool} {z : Option (Fl × List Sl)} (h : t ρ = some (b, ρ1)) (hb : b = false) (h2 : g ρ1 = z) : sIf t f g ρ = z := by
  unfold sIf
  rw [h, hb]; exact h2
theorem stIfET {t : PT'} {f g : PF} {ρ ρ1 : List Sl} {b : Bool} {z : Option (Sl × List Sl)} (h : t ρ = some (b, ρ1)) (hb : b = true) (h2 : f ρ1 = z) : eIf t f g ρ = z := by
  unfold eIf
  rw [h, hb]; exact h2
theorem stIfEN {t : PT'} {f g : PF} {ρ ρ1 : List Sl} {b : Bool} {z : Option (Sl × List Sl)} (h : t ρ = some (b, ρ1)) (hb : b = false) (h2 : g ρ1 = z) : eIf t f g ρ = z := by
  unfold eIf
  rw [h, hb]; exact h2
theorem stSeqN {f g : PSF} {ρ ρ1 : List Sl} {z : Option (Fl × List Sl)} (h : f ρ = some (.nx, ρ1)) (h2 : g ρ1 = z) : sSeq f g ρ = z := (stNx h).trans h2
theorem stNilS {ρ : List Sl} : sNil ρ = some (.nx, ρ) := rfl
theorem stoS {f : PF} {ρ ρ1 : List Sl} {i : Int} (h : f ρ = some (.fz (.int i), ρ1)) : oSome f ρ = some (some i, ρ1) := by
  unfold oSome
  rw [h]; rfl
theorem stoN {ρ : List Sl} : oNone ρ = some (none, ρ) := rfl
theorem stSl {fa : PF} {fl fh : PFo} {ρ ρ1 ρ2 ρ3 : List Sl} {r : Sl} {l h : Option Int} {p : PV} {v : Vl} (h1 : fa ρ = some (r, ρ1)) (h2 : fl ρ1 = some (l, ρ2)) (h3 : fh ρ2 = some (h, ρ3)) (c : cont ρ3 r = some p) (ho : opSl p l h = some v) : eSl fa fl fh ρ = some (v.sl, ρ3) := by
  unfold eSl
  rw [h1, Option.bind_some, h2, Option.bind_some, h3, Option.bind_some, c, Option.bind_some, ho]; rfl
theorem stTup {fs : PFs} {ρ ρ1 : List Sl} {rs : List Sl} {ps : List PV} (h1 : fs ρ = some (rs, ρ1)) (h2 : valsOf rs = some ps) (hl : ps.length ≤ lineN) : eTup fs ρ = some (.fz (.tup ps), ρ1) := by
  unfold eTup
  rw [h1, Option.bind_some, h2, Option.bind_some, if_pos hl]
theorem stLst {fs : PFs} {ρ ρ1 : List Sl} {rs : List Sl} {ps : List PV} (h1 : fs ρ = some (rs, ρ1)) (h2 : valsOf rs = some ps) (hl : ps.length ≤ lineN) : eLst fs ρ = some (.own ps, ρ1) := by
  unfold eLst
  rw [h1, Option.bind_some, h2, Option.bind_some, if_pos hl]
theorem stFld {t : Nat → Option Nat} {fa : PF} {ρ ρ1 : List Sl} {c j : Nat} {xs : List PV} {p : PV} (h : fa ρ = some (.fz (.ins c xs), ρ1)) (h2 : t c = some j) (h3 : xs[j]? = some p) : eFld t fa ρ = some (.fz p, ρ1) := by
  unfold eFld
  rw [h, Option.bind_some]
  show (t c).bind _ = _
  rw [h2, Option.bind_some, h3]; rfl
theorem stAppend {i : Nat} {f : PF} {ρ ρ1 : List Sl} {r : Sl} {p : PV} {xs ys : List PV} (h0 : ρ[i]? = some (.own ys)) (h1 : f ρ = some (r, ρ1)) (h2 : valOf r = some p) (h3 : ρ1[i]? = some (.own xs)) (hl : xs.length < lineN) : eAppend i f ρ = some (.fz .non, ρ1.set i (.own (xs ++ [p]))) := by
  unfold eAppend
  rw [h0]
  show (f ρ).bind _ = _
  rw [h1, Option.bind_some, h2, Option.bind_some]
  show (match ρ1[i]? with | some (.own xs) => _ | _ => _) = _
  rw [h3]
  exact if_pos hl
theorem stFn {N : Nat} {rs : List Bool} {body : PSF} {as ρ1 : List Sl} {v : Vl} (h : body (prepP rs as ++ List.replicate (N - rs.length) .un) = some (.rt v, ρ1)) : fnF N rs body as = some (v, finP rs (prepP rs as) ρ1) := by
  unfold fnF
  rw [h]; rfl
theorem stFnN {N : Nat} {rs : List Bool} {body : PSF} {as ρ1 : List Sl} (h : body (prepP rs as ++ List.replicate (N - rs.length) .un) = some (.nx, ρ1)) : fnF N rs body as = some (.fz .non, finP rs (prepP rs as) ρ1) := by
  unfold fnF
  rw [h]; rfl
theorem stChainT {op op' : PV → PV → Option Vl} {fa fb fc : PF} {ρ ρ1 ρ2 ρ3 : List Sl} {r s t : Sl} {p q q' u : PV} {b : Bool} {v : Vl} (h1 : fa ρ = some (r, ρ1)) (h2 : fb ρ1 = some (s, ρ2)) (c1 : cont ρ2 r = some p) (c2 : cont ρ2 s = some q) (ho : op p q = some (.fz (.bl b))) (hb : b = true) (h3 : fc ρ2 = some (t, ρ3)) (c3 : cont ρ3 s = some q') (c4 : cont ρ3 t = some u) (ho2 : op' q' u = some v) : eChain op op' fa fb fc ρ = some (v.sl, ρ3) := by
  subst hb
  unfold eChain
  rw [h1, Option.bind_some, h2, Option.bind_some, c1, Option.bind_some, c2, Option.bind_some, ho]
  show (fc ρ2).bind _ = _
  rw [h3, Option.bind_some, c3, Option.bind_some, c4, Option.bind_some, ho2]; rfl
theorem stChainN {op op' : PV → PV → Option Vl} {fa fb fc : PF} {ρ ρ1 ρ2 : List Sl} {r s : Sl} {p q : PV} {b : Bool} (h1 : fa ρ = some (r, ρ1)) (h2 : fb ρ1 = some (s, ρ2)) (c1 : cont ρ2 r = some p) (c2 : cont ρ2 s = some q) (ho : op p q = some (.fz (.bl b))) (hb : b = false) : eChain op op' fa fb fc ρ = some (.fz (.bl false), ρ2) := by
  subst hb
  unfold eChain
  rw [h1, Option.bind_some, h2, Option.bind_some, c1, Option.bind_some, c2, Option.bind_some, ho]
theorem stPar {i j : Nat} {fs : PFs} {ρ ρ1 : List Sl} {r s : Sl} {v w : Vl} (h : fs ρ = some ([r, s], ρ1)) (h2 : toVl r = some v) (h3 : toVl s = some w) : sPar i j fs ρ = some (.nx, (ρ1.set i v.sl).set j w.sl) := by
  unfold sPar
  rw [h, Option.bind_some]
  show (toVl r).bind _ = _
  rw [h2, Option.bind_some, h3]; rfl
theorem stAsg {f : PF} {g : PGF} {ρ ρ1 ρ2 : List Sl} {r : Sl} {p : PV} (h : f ρ = some (r, ρ1)) (h2 : valOf r = some p) (h3 : g p ρ1 = some ρ2) : sAsg f g ρ = some (.nx, ρ2) := by
  unfold sAsg
  rw [h, Option.bind_some, h2, Option.bind_some, h3]; rfl
theorem stISeq {f : PF} {ρ ρ1 : List Sl} {r : Sl} {items : List PV} (h : f ρ = some (r, ρ1)) (h2 : seqOf (tmpOf r) = some items) : iSeq f ρ = some (items, [r], ρ1) := by
  unfold iSeq
  rw [h, Option.bind_some, h2]; rfl
theorem seq_fz_lst {xs : List PV} : seqOf (tmpOf (.fz (.lst xs))) = some xs := rfl


theorem opEq_ii {i j : Int} : opEq (.int i) (.int j) = some (.fz (.bl (decide (i = j)))) := by
  unfold opEq
  rw [datN_i, datN_i, if_pos ⟨rfl, rfl⟩, eqP_ii]
  rfl
theorem opNe_ii {i j : Int} : opNe (.int i) (.int j) = some (.fz (.bl (!decide (i = j)))) := by
  unfold opNe
  rw [datN_i, datN_i, if_pos ⟨rfl, rfl⟩, eqP_ii]
  rfl
theorem opIx_l {xs : List PV} {i : Int} {p : PV} (h : L2.atI xs i = some p) : opIx (.lst xs) (.int i) = some (.fz p) := by
  show Option.map _ _ = _
  rw [h]; rfl
theorem opIx_t {xs : List PV} {i : Int} {p : PV} (h : L2.atI xs i = some p) : opIx (.tup xs) (.int i) = some (.fz p) := by
  show Option.map _ _ = _
  rw [h]; rfl
theorem opMod_i {i j : Int} (h : 0 < j) : opMod (.int i) (.int j) = some (.fz (.int (i % j))) := by
  show (if _ then _ else _) = _
  exact if_pos h
theorem clSum2_l {xs : List PV} {ns : List Int} (h : intsOf xs = some ns) : clSum2 [.lst xs] = some (.fz (.int ns.sum)) := by
  simp only [clSum2, clSum, h, Option.map_some]
theorem clSum2_t {xs : List PV} {ns : List Int} (h : intsOf xs = some ns) : clSum2 [.tup xs] = some (.fz (.int ns.sum)) := by
  simp only [clSum2, clSum, h, Option.map_some]
theorem clMax2_l {xs : List PV} {ns : List Int} (h : intsOf xs = some ns) (hn : ns ≠ []) : clMax2 [.lst xs] = some (.fz (.int (maxL ns))) := by
  have : ns.isEmpty = false := by cases ns with | nil => exact absurd rfl hn | cons _ _ => rfl
  unfold clMax2 clMax
  simp only [h, Option.bind_some, this]
  rfl
theorem clMin2_l {xs : List PV} {ns : List Int} (h : intsOf xs = some ns) (hn : ns ≠ []) : clMin2 [.lst xs] = some (.fz (.int (minL ns))) := by
  have : ns.isEmpty = false := by cases ns with | nil => exact absurd rfl hn | cons _ _ => rfl
  unfold clMin2 clMin
  simp only [h, Option.bind_some, this]
  rfl
theorem clAll_l {xs : List PV} {bs : List Bool} (h : blsOf xs = some bs) : clAll [.lst xs] = some (.fz (.bl (bs.all id))) := by
  simp only [clAll, h, Option.map_some]
theorem clAny_l {xs : List PV} {bs : List Bool} (h : blsOf xs = some bs) : clAny [.lst xs] = some (.fz (.bl (bs.any id))) := by
  simp only [clAny, h, Option.map_some]
theorem clLen_l {xs : List PV} {n : Nat} (h : xs.length = n) : clLen [.lst xs] = some (.fz (.int n)) := by
  rw [← h]; rfl
theorem clLen_t {xs : List PV} {n : Nat} (h : xs.length = n) : clLen [.tup xs] = some (.fz (.int n)) := by
  rw [← h]; rfl
def flOut : Fl → Bool
  | .nx => false
  | _ => true
theorem stSeqO {f g : PSF} {ρ ρ1 : List Sl} {fl : Fl} (h : f ρ = some (fl, ρ1)) (hf : flOut fl = true) : sSeq f g ρ = some (fl, ρ1) := by
  unfold sSeq
  rw [h, Option.bind_some]
  cases fl <;> first | rfl | exact absurd hf (by simp [flOut])
theorem stZip2 {fs : PFs} {ρ ρ1 : List Sl} {r s : Sl} {xs ys : List PV} (h : fs ρ = some ([r, s], ρ1)) (h1 : seqOf (tmpOf r) = some xs) (h2 : seqOf (tmpOf s) = some ys) : iZip2 fs ρ = some (zipP xs ys, [r, s], ρ1) := by
  unfold iZip2
  rw [h, Option.bind_some]
  show (seqOf (tmpOf r)).bind _ = _
  rw [h1, Option.bind_some, h2]; rfl
theorem stZip3 {fs : PFs} {ρ ρ1 : List Sl} {r s t : Sl} {xs ys zs : List PV} (h : fs ρ = some ([r, s, t], ρ1)) (h1 : seqOf (tmpOf r) = some xs) (h2 : seqOf (tmpOf s) = some ys) (h3 : seqOf (tmpOf t) = some zs) : iZip3 fs ρ = some (zip3P xs ys zs, [r, s, t], ρ1) := by
  unfold iZip3
  rw [h, Option.bind_some]
  show (seqOf (tmpOf r)).bind _ = _
  rw [h1, Option.bind_some, h2, Option.bind_some, h3]; rfl
theorem stEnum {fs : PFs} {ρ ρ1 : List Sl} {r : Sl} {xs : List PV} (h : fs ρ = some ([r], ρ1)) (h1 : seqOf (tmpOf r) = some xs) : iEnum fs ρ = some (enumP 0 xs, [r], ρ1) := by
  unfold iEnum
  rw [h, Option.bind_some]
  show (seqOf (tmpOf r)).map _ = _
  rw [h1]; rfl
theorem stMeth {c : Nat} {f : FP} {fa : PF} {fs : PFs} {ρ ρ1 ρ2 : List Sl} {zs : List PV} {rs ss : List Sl} {s0 : Sl} {v : Vl} (h1 : fa ρ = some (.fz (.ins c zs), ρ1)) (h2 : fs ρ1 = some (rs, ρ2)) (h3 : f (.fz (.ins c zs) :: rs.map tmpOf) = some (v, s0 :: ss)) : eMeth c f fa fs ρ = some (v.sl, putB rs ss ρ2) := by
  unfold eMeth
  rw [h1, Option.bind_some]
  show (if c = c then _ else _) = _
  rw [if_pos rfl, h2, Option.bind_some, h3]; rfl
theorem stMake {c n : Nat} {f : FP} {fs : PFs} {ρ ρ1 : List Sl} {rs ss : List Sl} {zs : List PV} (h1 : fs ρ = some (rs, ρ1)) (h2 : f (.obj c [] :: rs.map tmpOf) = some (.fz .non, .obj c zs :: ss)) (h3 : zs.length = n) : eMake c n f fs ρ = some (.fz (.ins c zs), putB rs ss ρ1) := by
  unfold eMake
  rw [h1, Option.bind_some, h2, Option.bind_some]
  exact if_pos ⟨rfl, h3⟩
theorem stRetN {ρ : List Sl} : sRetN ρ = some (.rt (.fz .non), ρ) := rfl
theorem stChainT' {op op' : PV → PV → Option Vl} {fa fb fc : PF} {ρ ρ1 ρ2 ρ3 : List Sl} {r s t : Sl} {p q q' u : PV} {v : Vl} (h1 : fa ρ = some (r, ρ1)) (h2 : fb ρ1 = some (s, ρ2)) (c1 : cont ρ2 r = some p) (c2 : cont ρ2 s = some q) (ho : op p q = some (.fz (.bl true))) (h3 : fc ρ2 = some (t, ρ3)) (c3 : cont ρ3 s = some q') (c4 : cont ρ3 t = some u) (ho2 : op' q' u = some v) : eChain op op' fa fb fc ρ = some (v.sl, ρ3) :=
  stChainT h1 h2 c1 c2 ho rfl h3 c3 c4 ho2
theorem bl_eq {b c : Bool} {x : Option Vl} (h : x = some (.fz (.bl b))) (e : b = c) : x = some (.fz (.bl c)) := e ▸ h
theorem stSetIx {i : Nat} {fa fi : PF} {ρ ρ1 ρ2 : List Sl} {r : Sl} {p : PV} {ys xs : List PV} {j : Int} {m : Nat} (h1 : fa ρ = some (r, ρ1)) (h2 : valOf r = some p) (h3 : ρ1[i]? = some (.own ys)) (h4 : fi ρ1 = some (.fz (.int j), ρ2)) (h5 : ρ2[i]? = some (.own xs)) (h6 : L2.ixN xs.length j = some m) : sSetIx i fa fi ρ = some (.nx, ρ2.set i (.own (xs.set m p))) := by
  unfold sSetIx
  rw [h1, Option.bind_some, h2, Option.bind_some]
  show (match ρ1[i]? with | some (.own _) => _ | _ => _) = _
  rw [h3]
  show (fi ρ1).bind _ = _
  rw [h4, Option.bind_some]
  show (match Sl.fz (.int j), ρ2[i]? with | .fz (.int j), some (.own xs) => _ | _, _ => _) = _
  rw [h5]
  show (L2.ixN xs.length j).map _ = _
  rw [h6]; rfl

theorem not_t {b : Bool} (h : b = false) : (!b) = true := by rw [h]; rfl
theorem not_f {b : Bool} (h : b = true) : (!b) = false := by rw [h]; rfl
theorem stIndex {fa fb : PF} {ρ ρ1 ρ2 : List Sl} {r1 r2 : Sl} {xs ys : List PV} {q : PV} {j : Nat} (h1 : fa ρ = some (r1, ρ1)) (c1 : cont ρ1 r1 = some (.lst ys)) (h2 : fb ρ1 = some (r2, ρ2)) (c2 : cont ρ2 r1 = some (.lst xs)) (c3 : cont ρ2 r2 = some q) (d1 : datN 60 (.lst xs) = true) (d2 : datN 60 q = true) (hi : idxP q xs = some j) : eIndex fa fb ρ = some (.fz (.int j), ρ2) := by
  unfold eIndex
  simp only [h1, Option.bind_some, c1, h2, c2, c3, d1, d2, and_self, if_true, hi, Option.map_some]
theorem opAdd_l {xs ys : List PV} (h : xs.length + ys.length ≤ 100000) : opAdd (.lst xs) (.lst ys) = some (.own (xs ++ ys)) := by
  have : xs.length + ys.length ≤ lineN := by unfold lineN; omega
  exact if_pos this
theorem opAdd_t {xs ys : List PV} (h : xs.length + ys.length ≤ 100000) : opAdd (.tup xs) (.tup ys) = some (.fz (.tup (xs ++ ys))) := by
  have : xs.length + ys.length ≤ lineN := by unfold lineN; omega
  exact if_pos this
theorem stListRg {w : PIF} {ρ ρ1 : List Sl} {items : List PV} (h : w ρ = some (items, [], ρ1)) : eListRg w ρ = some (.own items, ρ1) := by
  unfold eListRg
  rw [h]; rfl
theorem rangeP_length {a : Int} {n : Nat} : (rangeP a n).length = n := by unfold rangeP; simp
end PL
set_option Elab.async false
set_option linter.all false
set_option maxRecDepth 100000
set_option maxHeartbeats 4000000
/-! PLz: x, y = a, b where x or y is captured (the pair is laid and parted). -/
namespace PL
open PySem PySem.Spec PyProof.Rows L2
section
variable {X : Cx} {R : RE} {pr : List Nat} {a b : PySem.Expr} {pos : Pos}
theorem sv_parC {i j : Nat} {x y : Str} {fs : PFs} {px py pt : Pos} {kt k2 pt2} (hc : X.calm = true) (hN : X.N.Nodup) (hi : X.N[i]? = some x) (hj : X.N[j]? = some y)
    (hx : Loc X.env.scope x) (hy : Loc X.env.scope y) (hp : i ∉ pr) (hp' : j ∉ pr) (h : Av X R [a, b] fs)
    (fx : X.fn x = true ∨ X.env.scope.names.lookup x = some .local := by first | exact .inl rfl | exact .inr rfl | assumption)
    (fy : X.fn y = true ∨ X.env.scope.names.lookup y = some .local := by first | exact .inl rfl | exact .inr rfl | assumption)
    (hw : swappedStores [.Tuple [.Name x px, .Name y py] kt pt] (.Tuple [a, b] k2 pt2) X.env = pure none := by rfl)
    (hs : swapsWithSole [.Tuple [.Name x px, .Name y py] kt pt] (.Tuple [a, b] k2 pt2) pos.line X.env = pure false := by rfl)
    (h1 : (assignEach [.Tuple [.Name x px, .Name y py] kt pt] X.env).map (·.2) = [assign (.Tuple [.Name x px, .Name y py] kt pt) X.env] := by rfl)
    (hn : (assignEach [.Name x px, .Name y py] X.env).length = 2 := by rfl) (hst : (assignEach [.Name x px, .Name y py] X.env).findIdx? (·.1) = none := by rfl)
    (e1 : (assignEach [.Name x px, .Name y py] X.env).map (·.2) = assign (.Name x px) X.env :: (assignEach [.Name y py] X.env).map (·.2) := by rfl)
    (e2 : (assignEach [.Name y py] X.env).map (·.2) = assign (.Name y py) X.env :: (assignEach [] X.env).map (·.2) := by rfl) :
    Sv X R pr (.Assign [.Tuple [.Name x px, .Name y py] kt pt] (.Tuple [a, b] k2 pt2) pos) (sPar i j fs) := by
  refine ⟨fun ρ r ρ' q => ?_, ps_mono (ps_asg (pe_tup h.pa) (pg_tup hc (pgs_cons (pg_name hN hi hx fx) (pgs_cons (pg_name hN hj hy fy) pgs_nil e2) e1) hn hst) hs hw h1) fun D σ H q => ?_⟩
  · obtain ⟨v, w, ρ1, q1, _, rfl⟩ := sPar_some q
    rw [List.length_set, List.length_set]; exact h.len _ _ _ q1
  · obtain ⟨e, F, ρ, tm, fl, ρ', hl, hB, hf, k⟩ := q
    obtain ⟨v, w, ρ1, q1, rfl, rfl⟩ := sPar_some hf
    refine ⟨e, F, ρ, tm, _, ρ1, hl, hB, q1, fun xs H' F' B' k1 => ?_⟩
    have l1 := h.len _ _ _ q1
    have lx := Paired.len k1
    match xs, lx with
    | [x1, x2], _ =>
      refine ⟨by rw [← lineN_eq]; show 2 ≤ lineN; decide, fun p n => ?_⟩
      refine ⟨p, [x1, x2], rfl, .inl (.inl upd_same), rfl, x1, [x2], rfl, x2, [], rfl, rfl, ?_⟩
      have e1 : ([v.sl, w.sl].map tmpOf).zip ([x1, x2].map some) = [(v.sl, some x1), (w.sl, some x2)] := by simp [tmp_sl]
      rw [e1] at B'
      have B2 := Bag.slot (i := i) (B'.lay (o := .tup [x1, x2]) n) (by omega)
      have B3 := Bag.slot (i := j) B2 (by rw [List.length_set, List.length_set]; omega)
      rw [List.append_nil] at B3
      exact k _ _ F' (by rw [List.length_set, List.length_set]) (fun m hm => by rw [pr_set hp' m hm, pr_set hp m hm]) B3
end
end PL
set_option Elab.async false
set_option linter.all false
set_option maxRecDepth 100000
set_option maxHeartbeats 4000000
/-! PL1: list(zip(xs, ys)): each tuple stays in the list. -/
namespace PL
open PySem PySem.Sem PySem.Spec PyProof.Rows L2
section
variable {prog : Program} {w : World} {A : Around} {E : Value → Shared → Prop} {s : Shared} {z TI TO T i1 i2 : Addr} {f : Bool} {oT : Obj} {fp1 fp2 : List Addr} {n1 n2 i : Nat} {P1 P2 : Nat → Value → Prop} {St1 St2 : Nat → Heap → Prop}
/-- zip's next while the tuple given out before is still about: a new tuple -/
theorem zipHeld_item {Q : Value → Shared → Prop} (S : ZipSep2 z TI TO i1 i2 fp1 fp2) (D1 : Draws prog w A i1 fp1 n1 P1 St1) (D2 : Draws prog w A i2 fp2 n2 P2 St2)
    (hz : IsZipHeld s.heap z TI TO T f) (hT : s.heap.get? T = some oT) (hTI : IsTupOf2 s.heap TI (.ref i1) (.ref i2)) (st1 : St1 i s.heap) (st2 : St2 i s.heap) (l1 : i < n1) (l2 : i < n2)
    (k : ∀ x y h' tk, P1 i x → P2 i y → IsZipHeld h' z TI TO T true → St1 (i + 1) h' → St2 (i + 1) h' → IsTupOf2 h' s.heap.objs.size x y →
      (∀ c o, c ≠ z → c ≠ i1 → c ≠ i2 → s.heap.get? c = some o → h'.get? c = some o) → Q (.ref s.heap.objs.size) { s with heap := h', toks := tk }) :
    wpAny (model prog w) A (Builtin.«zip.__next__» ⟨[.ref z], []⟩) (fun fin s' => ∃ v, fin = .done (.ret v) ∧ Q v s') E s := by
  obtain ⟨hp, g, d, tk0, os⟩ := s
  show wpAny _ _ (field (.ref z) 2 >>= _) _ _ _
  refine wpAny_bind (wpAny_field hz rfl (x := .bool false) rfl ?_)
  show wpAny _ _ (field (.ref z) 3 >>= _) _ _ _
  refine wpAny_bind (wpAny_field hz rfl (x := .ref TI) rfl (wpAny_bind (wpAny_seqItems hTI rfl ?_)))
  show wpAny _ _ (Builtin.SmallTypes.ownedTupleIsFree (.ref z) >>= _) _ _ _
  refine wpAny_bind (wpAny_tupleHeld_zip hz hT fun a za sa => ?_)
  replace sa : Heap.SameBut z hp a := sa
  replace za : IsZipHeld a z TI TO T true := za
  simp only [Bool.false_eq_true, if_false]
  refine wpAny_bind ?_
  rw [← Array.forIn_toList]
  simp only [List.forIn_cons, List.forIn_nil]
  refine wpAny_bind (wpAny_bind (wpAny_holding ?_))
  show wpAny _ _ (Builtin.SmallTypes.nextOf (.ref i1) >>= _) _ _ ⟨a, g, d, tk0, os⟩
  refine wpAny_bind (D1.item i _ _ _ l1 (D1.over st1 sa S.zf1) fun x b t1 px j1 sb => wpAny_pure (wpAny_pure ?_))
  replace sb : Heap.SameBut i1 a b := sb
  refine wpAny_bind (wpAny_bind (wpAny_holding ?_))
  show wpAny _ _ (Builtin.SmallTypes.nextOf (.ref i2) >>= _) _ _ ⟨b, g, d, t1, os⟩
  refine wpAny_bind (D2.item i _ _ _ l2 (D2.over (D2.over st2 sa S.zf2) sb S.sep1_2) fun y c t2 py j2 sc => wpAny_pure (wpAny_pure (wpAny_pure ?_)))
  replace sc : Heap.SameBut i2 b c := sc
  show wpAny _ _ (newTuple [x, y] >>= _) _ _ ⟨c, g, d, t2, os⟩
  refine wpAny_bind (wpAny_newTuple (wpAny_pure ⟨_, rfl, ?_⟩))
  have sz : c.objs.size = hp.objs.size := by rw [sc.1, sb.1, sa.1]
  have up : ∀ e o, c.get? e = some o → (c.push { cls := .type "tuple", data := .seq #[x, y] }).get? e = some o := fun e o q => Heap.get?_push_of_some _ q
  have hp' : IsTupOf2 (c.push { cls := .type "tuple", data := .seq #[x, y] }) c.objs.size x y := Heap.get?_push_size _ rfl
  show Q (.ref c.objs.size) ⟨_, g, d, t2, os⟩
  rw [sz] at hp' ⊢
  exact k x y _ t2 px py (up _ _ (sc.extBut _ _ S.zi2 (sb.extBut _ _ S.zi1 za))) (D1.frame _ _ _ (D1.over j1 sc S.sep2_1) fun e _ o q => up e o q) (D2.frame _ _ _ j2 fun e _ o q => up e o q) hp'
    fun e o e1 e2 e3 q => up e o (sc.extBut _ _ e3 (sb.extBut _ _ e2 (sa.extBut _ _ e1 q)))
theorem zipHeld_end {Q : Fin → Shared → Prop} (S : ZipSep2 z TI TO i1 i2 fp1 fp2) (D1 : Draws prog w A i1 fp1 n1 P1 St1) (D2 : Draws prog w A i2 fp2 n2 P2 St2)
    (hz : IsZipHeld s.heap z TI TO T f) (hT : s.heap.get? T = some oT) (hTI : IsTupOf2 s.heap TI (.ref i1) (.ref i2)) (st1 : St1 i s.heap) (st2 : St2 i s.heap) (l1 : i ≤ n1) (l2 : i ≤ n2) (he : i = n1 ∨ i = n2)
    (k : ∀ h' tk e, (∀ c o, c ≠ z → c ≠ i1 → c ≠ i2 → s.heap.get? c = some o → h'.get? c = some o) → (∃ o, h'.get? e = some o ∧ o.cls = .type "StopIteration") → E (.ref e) { s with heap := h', toks := tk }) :
    wpAny (model prog w) A (Builtin.«zip.__next__» ⟨[.ref z], []⟩) Q E s := by
  obtain ⟨hp, g, d, tk0, os⟩ := s
  show wpAny _ _ (field (.ref z) 2 >>= _) _ _ _
  refine wpAny_bind (wpAny_field hz rfl (x := .bool false) rfl ?_)
  show wpAny _ _ (field (.ref z) 3 >>= _) _ _ _
  refine wpAny_bind (wpAny_field hz rfl (x := .ref TI) rfl (wpAny_bind (wpAny_seqItems hTI rfl ?_)))
  show wpAny _ _ (Builtin.SmallTypes.ownedTupleIsFree (.ref z) >>= _) _ _ _
  refine wpAny_bind (wpAny_tupleHeld_zip hz hT fun a za sa => ?_)
  replace sa : Heap.SameBut z hp a := sa
  simp only [Bool.false_eq_true, if_false]
  refine wpAny_bind ?_
  rw [← Array.forIn_toList]
  simp only [List.forIn_cons, List.forIn_nil]
  refine wpAny_bind (wpAny_bind (wpAny_holding ?_))
  show wpAny _ _ (Builtin.SmallTypes.nextOf (.ref i1) >>= _) _ _ ⟨a, g, d, tk0, os⟩
  by_cases c1 : i < n1
  · refine wpAny_bind (D1.item i _ _ _ c1 (D1.over st1 sa S.zf1) fun x b t1 px j1 sb => wpAny_pure (wpAny_pure ?_))
    replace sb : Heap.SameBut i1 a b := sb
    have e2 : i = n2 := by omega
    refine wpAny_bind (wpAny_bind (wpAny_holding ?_))
    show wpAny _ _ (Builtin.SmallTypes.nextOf (.ref i2) >>= _) _ _ ⟨b, g, d, t1, os⟩
    refine wpAny_bind (D2.done ⟨b, g, d, t1, os⟩ _ _ (by rw [← e2]; exact D2.over (D2.over st2 sa S.zf2) sb S.sep1_2) fun q e hq hx => ?_)
    replace hq : Heap.ExtBut i2 b q := hq
    exact k q t1 e (fun c o k1 k2 k3 x => hq _ _ k3 (sb.extBut _ _ k2 (sa.extBut _ _ k1 x))) hx
  · have e1 : i = n1 := by omega
    refine wpAny_bind (D1.done ⟨a, g, d, tk0, os⟩ _ _ (by rw [← e1]; exact D1.over st1 sa S.zf1) fun q e hq hx => ?_)
    replace hq : Heap.ExtBut i1 a q := hq
    exact k q tk0 e (fun c o k1 k2 k3 x => hq _ _ k2 (sa.extBut _ _ k1 x)) hx
theorem next_zipHeld {Q : Option Value → Shared → Prop} (S : ZipSep2 z TI TO i1 i2 fp1 fp2) (D1 : Draws prog w A.in1 i1 fp1 n1 P1 St1) (D2 : Draws prog w A.in1 i2 fp2 n2 P2 St2)
    (hz : IsZipHeld s.heap z TI TO T f) (hT : s.heap.get? T = some oT) (hTI : IsTupOf2 s.heap TI (.ref i1) (.ref i2)) (st1 : St1 i s.heap) (st2 : St2 i s.heap) (l1 : i < n1) (l2 : i < n2)
    (k : ∀ x y h' tk, P1 i x → P2 i y → IsZipHeld h' z TI TO T true → St1 (i + 1) h' → St2 (i + 1) h' → IsTupOf2 h' s.heap.objs.size x y →
      (∀ c o, c ≠ z → c ≠ i1 → c ≠ i2 → s.heap.get? c = some o → h'.get? c = some o) → Q (some (.ref s.heap.objs.size)) { s with heap := h', toks := tk }) :
    wpAny (model prog w) A (pyNext (.ref z)) Q E s := by
  have ty : s.TypeIs (.ref z) "zip" := ⟨_, hz, rfl⟩
  unfold pyNext
  refine wpAny_bind (wpAny_attempt (wpAny_callSpecial?_slot (name := Str.ofString "__next__") ty F.slot_zip_next (wpAny_call_entry F.slot_zip_next ty F.entry_zip_next ?_ (F.args_zip_next_1 _))))
  exact zipHeld_item S D1 D2 hz hT hTI st1 st2 l1 l2 fun x y h' tk a b c d e g j => wpAny_pure (k x y h' tk a b c d e g j)
theorem next_zipHeldEnd {Q : Option Value → Shared → Prop} (S : ZipSep2 z TI TO i1 i2 fp1 fp2) (D1 : Draws prog w A.in1 i1 fp1 n1 P1 St1) (D2 : Draws prog w A.in1 i2 fp2 n2 P2 St2)
    (hz : IsZipHeld s.heap z TI TO T f) (hT : s.heap.get? T = some oT) (hTI : IsTupOf2 s.heap TI (.ref i1) (.ref i2)) (st1 : St1 i s.heap) (st2 : St2 i s.heap) (l1 : i ≤ n1) (l2 : i ≤ n2) (he : i = n1 ∨ i = n2)
    (k : ∀ h' tk, (∀ c o, c ≠ z → c ≠ i1 → c ≠ i2 → s.heap.get? c = some o → h'.get? c = some o) → Q none { s with heap := h', toks := tk }) :
    wpAny (model prog w) A (pyNext (.ref z)) Q E s := by
  have ty : s.TypeIs (.ref z) "zip" := ⟨_, hz, rfl⟩
  unfold pyNext
  refine wpAny_bind (wpAny_attempt (wpAny_callSpecial?_slot (name := Str.ofString "__next__") ty F.slot_zip_next (wpAny_call_entry F.slot_zip_next ty F.entry_zip_next (zipHeld_end S D1 D2 hz hT hTI st1 st2 l1 l2 he fun h' tk e hk hx => ?_) (F.args_zip_next_1 _))))
  obtain ⟨o, ho, hc⟩ := hx
  exact wpAny_bind (wpAny_isInstance (T := "StopIteration") (b := true) ⟨o, ho, hc⟩ isSubtype_stop (wpAny_pure (k _ _ hk)))
end
theorem zip_noLen : typeLookup (.type "zip") "__len__" = pure none := by rw [typeLookup_type, builtinLookup_eq_fast]; kernel_rfl
theorem zip_noHint : typeLookup (.type "zip") "__length_hint__" = pure none := by rw [typeLookup_type, builtinLookup_eq_fast]; kernel_rfl

/-- pairs that were laid one by one -/
inductive Grown (H : Hp) : List (V × V) → List V → Hp → Prop
  | nil : Grown H [] [] H
  | snoc {ps : List (V × V)} {ts : List V} {H1 : Hp} {T : Addr} {x y : V} : Grown H ps ts H1 → H1 T = none → Grown H (ps ++ [(x, y)]) (ts ++ [.ref T]) (upd H1 T (.tup [x, y]))
theorem Grown.sub {H H1 : Hp} {ps : List (V × V)} {ts : List V} (g : Grown H ps ts H1) : Sub H H1 := by
  induction g with
  | nil => exact .refl
  | snoc _ n ih => exact ih.trans (sub_upd n)
theorem Grown.len {H H1 : Hp} {ps : List (V × V)} {ts : List V} (g : Grown H ps ts H1) : ts.length = ps.length := by
  induction g with
  | nil => rfl
  | snoc _ _ ih => rw [List.length_append, List.length_append, ih]; rfl
theorem SqS.mono {K : PySem.W.Frag} {F G : Hp} {s : Src} {vs : List V} (h : SqS K F s vs) (m : Sub F G) : SqS K G s vs := by
  cases s with
  | l a => exact m.sqL h
  | t a => exact m.sqT h
theorem FpOk.new {X : Cx} {pins : List (Addr × Obj)} {H : Hp} {T b : Addr} {o : HO} (h : FpOk X pins H b) (n : b ≠ T) : FpOk X pins (upd H T o) b := ⟨(upd_ne n).trans h.1, h.2⟩
/-- an object of ours is tracked from now on as a list -/
theorem Inv.track {X : Cx} {pins : List (Addr × Obj)} {σ : L2.St} {H : Hp} {s : Shared} {S : Addr} {vs : List V} {acc : Array Value} {c : Nat} (I : Inv X pins σ H s) (hf : FpOk X pins H S) (e : s.heap.get? S = some { cls := .type "list", dict := none, data := .seq acc c, slots := #[] })
    (r : Vals vs acc.toList) (hl : vs.length ≤ sizeLine) : Inv X pins σ (upd H S (.lst vs)) s := by
  have hn : H S = none := hf.1
  have key : Inv X pins σ (upd H S (.lst vs)) { s with heap := s.heap, gens := s.gens, drawn := s.drawn, toks := s.toks } := by
    refine I.step (ch := [S]) (fun b hb => by rw [List.mem_singleton.mp hb]; exact ⟨hf.2.2.2.1, hf.2.1, hf.2.2.2.2.1, hf.2.2.2.2.2⟩) (fun b o _ _ _ q _ => q) (fun b o _ _ _ q _ => ⟨o.slots, q⟩)
      (fun b o hb _ n => ?_) (fun b o _ q => ⟨o, q⟩) (fun b us q => ?_) (fun b o u q => ?_) (fun b us q => ⟨#[], ?_⟩) (fun m hm => hm) (fun b u q => ?_) I.bare
    · rw [upd_ne (fun z => hb (by rw [z]; exact List.mem_singleton.mpr rfl))]; exact n
    · rw [upd_ne (ne_of_none q hn)]; exact q
    · rw [upd_ne (ne_of_none q hn)]; exact q
    · rw [upd_ne (ne_of_none q hn), q]; simp
    · by_cases hb : b = S
      · subst hb
        rw [upd_same] at q
        cases q
        exact ⟨hl, acc.toList, c, r, by rw [e]⟩
      · rw [upd_ne hb] at q
        exact (I.hok b u q).stay (fun _ _ _ z => z) (fun d z => by rw [upd_ne (ne_of_none z hn)]; exact z) fun d us z => by rw [upd_ne (ne_of_none z hn)]; exact z
  exact key

/-- a zip before turn i: as it was made, or with the tuple given out last -/
def ZSt (z TI TO i1 i2 : Addr) (a b : Src) (i : Nat) (H : Hp) (h : Heap) : Prop :=
  IsTupOf2 h TI (.ref i1) (.ref i2) ∧ itS h i1 a i ∧ itS h i2 b i ∧ (∃ x y, IsTupOf2 h TO x y) ∧ (IsZip h z TI TO .none ∨ ∃ T f vs, IsZipHeld h z TI TO T f ∧ H T = some (.tup vs))
section
variable {X : Cx} {pins : List (Addr × Obj)} {σ : L2.St} {H0 H : Hp} {s : Shared} {z TI TO i1 i2 S : Addr} {a b : Src} {xs ys : List V} {A : Around}
theorem zst_next {E : Value → Shared → Prop} {Q : Option Value → Shared → Prop} {i : Nat} (hh : A.in1.handled = none) (Sp : ZipSep2 z TI TO i1 i2 [i1, a.ad] [i2, b.ad]) (m1 : a.ad ≠ i1) (m2 : b.ad ≠ i2) (I : Inv X pins σ H s) (hf : ∀ c ∈ [z, TI, TO, i1, i2], FpOk X pins H c)
    (st : ZSt z TI TO i1 i2 a b i H s.heap) (q1 : SqS X.K H a xs) (q2 : SqS X.K H b ys) (l1 : i < xs.length) (l2 : i < ys.length)
    (k : ∀ h' tk T x y, H T = none → s.heap.objs.size ≤ T → (xs.zip ys)[i]? = some (x, y) → Inv X pins σ (upd H T (.tup [x, y])) { s with heap := h', toks := tk } → ZSt z TI TO i1 i2 a b (i + 1) (upd H T (.tup [x, y])) h' →
      (∀ c o, c ∉ [z, TI, TO, i1, i2] → s.heap.get? c = some o → h'.get? c = some o) → Q (some (.ref T)) { s with heap := h', toks := tk }) :
    wpAny (model X.prog X.w) A (pyNext (.ref z)) Q E s := by
  obtain ⟨its, r1, a1, z1, _⟩ := Inv.src I q1
  obtain ⟨jts, r2, a2, z2, _⟩ := Inv.src I q2
  obtain ⟨hTI, j1, j2, ⟨u, v, hTO⟩, hz⟩ := st
  have D1 := drawS (prog := X.prog) (w := X.w) (A := A.in1) hh i1 a m1 its.toArray
  have D2 := drawS (prog := X.prog) (w := X.w) (A := A.in1) hh i2 b m2 jts.toArray
  have c1 : i < its.toArray.size := by have := r1.length; simp only [List.size_toArray]; omega
  have c2 : i < jts.toArray.size := by have := r2.length; simp only [List.size_toArray]; omega
  have hT : H s.heap.objs.size = none := I.hok.fresh (Nat.le_refl _)
  have fin : ∀ (u v : Value) (h' : Heap) (tk : Nat), its.toArray[i]? = some u → jts.toArray[i]? = some v → IsTupOf2 h' TI (.ref i1) (.ref i2) → itS h' i1 a (i + 1) → itS h' i2 b (i + 1) → (∃ x y, IsTupOf2 h' TO x y) →
      IsTupOf2 h' s.heap.objs.size u v → (∀ c o, c ∉ [z, TI, TO, i1, i2] → s.heap.get? c = some o → h'.get? c = some o) →
      (∀ x y, ∃ T f vs, IsZipHeld h' z TI TO T f ∧ upd H s.heap.objs.size (.tup [x, y]) T = some (.tup vs)) → Q (some (.ref s.heap.objs.size)) { s with heap := h', toks := tk } := by
    intro u v h' tk e1 e2 g1 g2 g3 gO g4 g5 g6
    obtain ⟨x, f1, rx⟩ := vals_get r1 e1
    obtain ⟨y, f2, ry⟩ := vals_get r2 e2
    have new : ObjOk X.prog X.w (upd H s.heap.objs.size (.tup [x, y])) h' s.heap.objs.size (.tup [x, y]) := ⟨by show 2 ≤ sizeLine; decide, [u, v], .cons rx (.cons ry .nil), ⟨_, g4, rfl, _, rfl⟩⟩
    exact k h' tk _ x y hT (Nat.le_refl _) (by rw [List.getElem?_zip_eq_some]; exact ⟨f1, f2⟩) (I.turnedNew g5 hf (Nat.le_refl _) new) ⟨g1, g2, g3, gO, .inr (g6 x y)⟩ g5
  rcases hz with hz | ⟨T, f, vs, hz, hTH⟩
  · refine wpAny_pyNext_zipD2_item Sp D1 D2 hz hTI hTO ⟨j1, a1⟩ ⟨j2, a2⟩ c1 c2 fun x y h' tk p1 p2 b1 b2 d1 d2 b5 b6 hk => ?_
    exact fin x y h' tk p1 p2 (hk _ _ Sp.TIz Sp.TITO Sp.TIi1 Sp.TIi2 hTI) d1.1 d2.1 ⟨_, _, b2⟩ b5 (fun c o hc e => hk c o (fun w => hc (by simp [w])) (fun w => hc (by simp [w])) (fun w => hc (by simp [w])) (fun w => hc (by simp [w])) e)
      fun x y => ⟨_, false, _, b1, upd_same⟩
  · obtain ⟨ts, _, ⟨oT, hoT, _⟩, _⟩ := I.tuple (xs := vs) (.inl (.inl hTH))
    refine next_zipHeld Sp D1 D2 hz hoT hTI ⟨j1, a1⟩ ⟨j2, a2⟩ c1 c2 fun x y h' tk p1 p2 b1 d1 d2 b5 hk => ?_
    exact fin x y h' tk p1 p2 (hk _ _ Sp.TIz Sp.TIi1 Sp.TIi2 hTI) d1.1 d2.1 ⟨_, _, hk _ _ Sp.TOz Sp.Ti1 Sp.Ti2 hTO⟩ b5 (fun c o hc e => hk c o (fun w => hc (by simp [w])) (fun w => hc (by simp [w])) (fun w => hc (by simp [w])) e)
      fun x y => ⟨T, true, vs, b1, (upd_ne (ne_of_none hTH hT)).trans hTH⟩
theorem zst_end {E : Value → Shared → Prop} {Q : Option Value → Shared → Prop} (hh : A.in1.handled = none) (Sp : ZipSep2 z TI TO i1 i2 [i1, a.ad] [i2, b.ad]) (m1 : a.ad ≠ i1) (m2 : b.ad ≠ i2) (I : Inv X pins σ H s) (hf : ∀ c ∈ [z, TI, TO, i1, i2], FpOk X pins H c)
    (st : ZSt z TI TO i1 i2 a b (min xs.length ys.length) H s.heap) (q1 : SqS X.K H a xs) (q2 : SqS X.K H b ys)
    (k : ∀ h' tk, Inv X pins σ H { s with heap := h', toks := tk } → (∀ c o, c ∉ [z, TI, TO, i1, i2] → s.heap.get? c = some o → h'.get? c = some o) → Q none { s with heap := h', toks := tk }) :
    wpAny (model X.prog X.w) A (pyNext (.ref z)) Q E s := by
  obtain ⟨its, r1, a1, z1, _⟩ := Inv.src I q1
  obtain ⟨jts, r2, a2, z2, _⟩ := Inv.src I q2
  obtain ⟨hTI, j1, j2, ⟨u, v, hTO⟩, hz⟩ := st
  have D1 := drawS (prog := X.prog) (w := X.w) (A := A.in1) hh i1 a m1 its.toArray
  have D2 := drawS (prog := X.prog) (w := X.w) (A := A.in1) hh i2 b m2 jts.toArray
  have e1 : its.toArray.size = xs.length := by have := r1.length; simp only [List.size_toArray]; omega
  have e2 : jts.toArray.size = ys.length := by have := r2.length; simp only [List.size_toArray]; omega
  rcases hz with hz | ⟨T, f, vs, hz, hTH⟩
  · refine wpAny_pyNext_zipD2_end Sp D1 D2 hz hTI hTO ⟨j1, a1⟩ ⟨j2, a2⟩ (by omega) (by omega) (by omega) fun h' tk hk => ?_
    have g5 : ∀ c o, c ∉ [z, TI, TO, i1, i2] → s.heap.get? c = some o → h'.get? c = some o := fun c o hc e => hk c o (fun w => hc (by simp [w])) (fun w => hc (by simp [w])) (fun w => hc (by simp [w])) (fun w => hc (by simp [w])) e
    exact k h' tk (I.turnedL g5 hf) g5
  · obtain ⟨ts, _, ⟨oT, hoT, _⟩, _⟩ := I.tuple (xs := vs) (.inl (.inl hTH))
    refine next_zipHeldEnd Sp D1 D2 hz hoT hTI ⟨j1, a1⟩ ⟨j2, a2⟩ (by omega) (by omega) (by omega) fun h' tk hk => ?_
    have g5 : ∀ c o, c ∉ [z, TI, TO, i1, i2] → s.heap.get? c = some o → h'.get? c = some o := fun c o hc e => hk c o (fun w => hc (by simp [w])) (fun w => hc (by simp [w])) (fun w => hc (by simp [w])) e
    exact k h' tk (I.turnedL g5 hf) g5
theorem ZSt.at {i : Nat} {h h' : Heap} (st : ZSt z TI TO i1 i2 a b i H h) (k : ∀ c o, c ∈ [z, TI, TO, i1, i2] → h.get? c = some o → h'.get? c = some o) : ZSt z TI TO i1 i2 a b i H h' := by
  obtain ⟨hTI, j1, j2, ⟨u, v, hTO⟩, hz⟩ := st
  refine ⟨k _ _ (by simp) hTI, itS_at j1 fun o q => k _ _ (by simp) q, itS_at j2 fun o q => k _ _ (by simp) q, ⟨u, v, k _ _ (by simp) hTO⟩, ?_⟩
  rcases hz with hz | ⟨T, f, vs, hz, hTH⟩
  · exact .inl (k _ _ (by simp) hz)
  · exact .inr ⟨T, f, vs, k _ _ (by simp) hz, hTH⟩
/-- list.extend's loop over a zip -/
theorem zip_loop {R : Result → Shared → Prop} {res : Value} (hh : A.in1.in1.handled = none) (Sp : ZipSep2 z TI TO i1 i2 [i1, a.ad] [i2, b.ad]) (m1 : a.ad ≠ i1) (m2 : b.ad ≠ i2) (Sn : S ∉ [z, TI, TO, i1, i2])
    (p1 : SqS X.K H0 a xs) (p2 : SqS X.K H0 b ys) (hle : xs.length ≤ sizeLine)
    (hR : ∀ s' H ts acc c, Grown H0 (xs.zip ys) ts H → Inv X pins σ H s' → FpOk X pins H S → s'.heap.get? S = some { cls := .type "list", dict := none, data := .seq acc c, slots := #[] } → Vals ts acc.toList → R (.ok (.ret res)) s') :
    ∀ (k i : Nat) (s : Shared) (H : Hp) (ts : List V) (acc : Array Value) (c : Nat), min xs.length ys.length - i = k → i ≤ min xs.length ys.length → Grown H0 ((xs.zip ys).take i) ts H → Inv X pins σ H s → (∀ c ∈ [z, TI, TO, i1, i2], FpOk X pins H c) → FpOk X pins H S →
      s.heap.get? S = some { cls := .type "list", dict := none, data := .seq acc c, slots := #[] } → Vals ts acc.toList → ZSt z TI TO i1 i2 a b i H s.heap →
      codeAny (model X.prog X.w) A (.builtin "list.extend.loop" ⟨[.ref S, .ref z, res], []⟩) R s := by
  intro k
  induction k with
  | zero =>
    intro i s H ts acc c hk hi g I hf hfS hS hv st
    obtain rfl : i = min xs.length ys.length := by omega
    refine codeAny_builtin F.entry_extend_loop ?_
    rw [Around.under_plainId F.plain_extend_loop _]
    show wpAny _ A.in1 (pyNext (.ref z) >>= _) _ _ s
    refine wpAny_bind (zst_end hh Sp m1 m2 I hf st (SqS.mono p1 g.sub) (SqS.mono p2 g.sub) fun h' tk I' hk' => wpAny_pure ?_)
    rw [List.take_of_length_le (by rw [List.length_zip]; exact Nat.le_refl _)] at g
    exact hR _ H ts acc c g I' hfS (hk' S _ Sn hS) hv
  | succ k ih =>
    intro i s H ts acc c hk hi g I hf hfS hS hv st
    have li : i < min xs.length ys.length := by omega
    refine codeAny_builtin F.entry_extend_loop ?_
    rw [Around.under_plainId F.plain_extend_loop _]
    show wpAny _ A.in1 (pyNext (.ref z) >>= _) _ _ s
    refine wpAny_bind (zst_next hh Sp m1 m2 I hf st (SqS.mono p1 g.sub) (SqS.mono p2 g.sub) (by omega) (by omega) fun h' tk T x y hT hTs hxy I' st' hk' => ?_)
    have hS' := hk' S _ Sn hS
    have lS : ∀ c, c ∈ [z, TI, TO, i1, i2] → c ≠ S := fun c hc e => Sn (e ▸ hc)
    have sz : acc.size = i := by
      have e1 := hv.length
      have e2 := g.len
      rw [List.length_take, List.length_zip] at e2
      rw [← Array.length_toList]
      omega
    have neS : S ≠ T := Nat.ne_of_lt (Nat.lt_of_lt_of_le (Heap.lt_size hS) hTs)
    have oth : ∀ c o, c ≠ S → h'.get? c = some o → (h'.update S (Obj.mapSeq (·.push (.ref T)))).get? c = some o := fun c o hc e => (Heap.get?_update_other _ _ (Ne.symm hc)).trans e
    show wpAny _ A.in1 (updateSeq S (·.push (.ref T)) >>= _) _ _ _
    refine wpAny_bind (wpAny_updateSeq hS' rfl (wpAny_pure ⟨plainId_quiet F.plain_extend_loop _, ?_⟩) (by rw [sz]; omega) (by show (acc.push _).size ≤ sizeLine + 1; rw [Array.size_push, sz]; omega))
    refine ih (i + 1) _ (upd H T (.tup [x, y])) (ts ++ [.ref T]) (acc.push (.ref T)) _ (by omega) li ?_ (I'.turnedL (t' := tk) (ch := [S]) (fun c o hc e => oth c o (fun w => hc (by rw [w]; exact List.mem_singleton.mpr rfl)) e) fun c hc => by rw [List.mem_singleton.mp hc]; exact FpOk.new hfS neS) ?_ (FpOk.new hfS neS) (Heap.get?_update_self _ hS' rfl) ?_ (ZSt.at st' fun c o hc e => oth c o (lS c hc) e)
    · have e : (xs.zip ys).take (i + 1) = (xs.zip ys).take i ++ [(x, y)] := by rw [List.take_add_one, hxy]; rfl
      rw [e]
      exact .snoc g hT
    · intro c hc
      refine FpOk.new (hf c hc) ?_
      have : ∃ o, s.heap.get? c = some o := by
        obtain ⟨hTI, j1, j2, ⟨u, v, hTO⟩, hz⟩ := st
        have e' : c = z ∨ c = TI ∨ c = TO ∨ c = i1 ∨ c = i2 := by simpa using hc
        rcases e' with q | q | q | q | q
        · rcases hz with hz | ⟨T, f, vs, hz, hTH⟩
          · rw [q]; exact ⟨_, hz⟩
          · rw [q]; exact ⟨_, hz⟩
        · rw [q]; exact ⟨_, hTI⟩
        · rw [q]; exact ⟨_, hTO⟩
        · rw [q]; exact let ⟨o, e, _⟩ := itS_obj j1; ⟨o, e⟩
        · rw [q]; exact let ⟨o, e, _⟩ := itS_obj j2; ⟨o, e⟩
      obtain ⟨o, ho⟩ := this
      exact Nat.ne_of_lt (Nat.lt_of_lt_of_le (Heap.lt_size ho) hTs)
    · rw [Array.toList_push]
      exact hv.append (.cons rfl .nil)

/-- list(z) of a zip that has not begun -/
theorem call_list_zip {Q : Value → Shared → Prop} {E : Value → Shared → Prop} (hh : A.handled = none) (Sp : ZipSep2 z TI TO i1 i2 [i1, a.ad] [i2, b.ad]) (m1 : a.ad ≠ i1) (m2 : b.ad ≠ i2)
    (I : Inv X pins σ H s) (p1 : SqS X.K H a xs) (p2 : SqS X.K H b ys) (hle : xs.length ≤ sizeLine) (hf : ∀ c ∈ [z, TI, TO, i1, i2], FpOk X pins H c) (hz : IsZip s.heap z TI TO .none) (st : ZSt z TI TO i1 i2 a b 0 H s.heap)
    (k : ∀ s' H' ts q, Grown H (xs.zip ys) ts H' → H' q = none → Inv X pins σ (upd H' q (.lst ts)) s' → Q (.ref q) s') :
    wpAny (model X.prog X.w) A (call (.type "list") [.ref z]) Q E s := by
  have lz : z < s.heap.objs.size := Heap.lt_size hz
  have nS : s.heap.objs.size ∉ [z, TI, TO, i1, i2] := fun hm => by
    obtain ⟨hTI, j1, j2, ⟨u, v, hTO⟩, _⟩ := st
    obtain ⟨o1, e1, _⟩ := itS_obj j1
    obtain ⟨o2, e2, _⟩ := itS_obj j2
    have e' : s.heap.objs.size = z ∨ s.heap.objs.size = TI ∨ s.heap.objs.size = TO ∨ s.heap.objs.size = i1 ∨ s.heap.objs.size = i2 := by simpa using hm
    rcases e' with q | q | q | q | q
    · exact Nat.ne_of_gt lz q
    · exact Nat.ne_of_gt (Heap.lt_size hTI) q
    · exact Nat.ne_of_gt (Heap.lt_size hTO) q
    · exact Nat.ne_of_gt (Heap.lt_size e1) q
    · exact Nat.ne_of_gt (Heap.lt_size e2) q
  have Sz : s.heap.objs.size ≠ z := Nat.ne_of_gt lz
  refine callType_codes (Q₁ := fun obj s1 => obj = .ref s.heap.objs.size ∧ s1 = { s with heap := s.heap.push { cls := .type "list", data := .seq #[] } }) F.called_list (F.typeCall_list_1 _) F.entry_list_init
    (code_list_new _ ⟨rfl, rfl⟩) fun obj s1 h1 => ?_
  obtain ⟨rfl, rfl⟩ := h1
  have hS : (s.heap.push { cls := .type "list", data := .seq #[] }).get? s.heap.objs.size = some { cls := .type "list", data := .seq #[] } := Heap.get?_push_size _ rfl
  refine ⟨⟨_, hS, rfl⟩, F.args_list_init_2 _ _, ?_⟩
  show wpAny _ A.in1.in1 (do let old ← Builtin.List.listItems (.ref s.heap.objs.size); Builtin.List.listUpdate (.ref s.heap.objs.size) (fun _ => #[]); letGo old.toList.reverse; Builtin.List.listExtendWith (.ref s.heap.objs.size) (.ref z) .none) _ _ _
  refine wpAny_bind ?_
  unfold Builtin.List.listItems
  refine wpAny_bind (wpAny_seqItems hS rfl (wpAny_pure ?_))
  show wpAny _ A.in1.in1 (updateSeq s.heap.objs.size (fun _ => #[]) >>= fun _ => letGo (#[] : Array Value).toList.reverse >>= fun _ => Builtin.List.listExtendWith (.ref s.heap.objs.size) (.ref z) .none) _ _ _
  refine wpAny_bind (wpAny_updateSeq hS rfl ?_)
  have hS2 := Heap.get?_update_self (Obj.mapSeq (fun _ => (#[] : Array Value))) hS rfl
  refine wpAny_bind (wpAny_letGo ?_)
  unfold Builtin.List.listExtendWith
  have up : ∀ (h : Heap) (f : Obj → Obj), (∀ b o, s.heap.get? b = some o → h.get? b = some o) → ∀ b o, s.heap.get? b = some o → (h.update s.heap.objs.size f).get? b = some o := fun h f q b o e =>
    (Heap.get?_update_other _ _ (Ne.symm (Nat.ne_of_lt (Heap.lt_size e)))).trans (q b o e)
  have k1 : ∀ b o, s.heap.get? b = some o → (s.heap.push { cls := .type "list", data := .seq #[] }).get? b = some o := fun b o e => Heap.get?_push_of_some _ e
  have k2 := up _ (Obj.mapSeq (fun _ => (#[] : Array Value))) k1
  have zty : ∀ {t : Shared}, (∀ b o, s.heap.get? b = some o → t.heap.get? b = some o) → t.TypeIs (.ref z) "zip" := fun {t} q => ⟨_, q _ _ hz, rfl⟩
  refine wpAny_bind (wpAny_typeOf (zty k2) ?_)
  have t1 : Builtin.List.listSameRef (.ref s.heap.objs.size) (.ref z) = false := by simp [Builtin.List.listSameRef, Sz]
  have t2 : (Value.type "zip" == Value.type "list") = false := by decide
  have t3 : (Value.type "zip" == Value.type "tuple") = false := by decide
  simp only [t1, t2, t3, Bool.or_false, Bool.false_eq_true, if_false]
  refine wpAny_bind (wpAny_pyIter_zip (k2 _ _ hz) ?_)
  refine wpAny_bind (wpAny_holding ?_)
  unfold Builtin.List.listLengthHint
  refine wpAny_bind (wpAny_specialOf (zty k2) zip_noLen ?_)
  show wpAny _ A.in1.in1 (specialOf (Value.ref z) (Str.ofString "__length_hint__") >>= _) _ _ _
  refine wpAny_bind (wpAny_specialOf (zty k2) zip_noHint (wpAny_pure ?_))
  show wpAny _ A.in1.in1 (rule "list.extend.makes-room" >>= fun _ => Builtin.List.listTouch (.ref s.heap.objs.size) >>= fun _ => again (.builtin "list.extend.loop" ⟨[.ref s.heap.objs.size, .ref z, .none], []⟩)) _ _ _
  refine wpAny_bind (wpAny_rule (wpAny_bind ?_))
  show wpAny _ A.in1.in1 (updateSeq s.heap.objs.size (·.push .none) >>= fun _ => updateSeq s.heap.objs.size (·.pop)) _ _ _
  refine wpAny_bind (wpAny_updateSeq hS2 rfl ?_)
  have hS3 := Heap.get?_update_self (Obj.mapSeq (·.push Value.none)) hS2 rfl
  refine wpAny_updateSeq (hz := by seq_fits) hS3 rfl ?_
  have hS4 := Heap.get?_update_self (Obj.mapSeq (·.pop)) hS3 rfl
  have k4 := up _ (Obj.mapSeq (·.pop)) (up _ (Obj.mapSeq (·.push Value.none)) k2)
  refine wpAny_pure ⟨plainId_quiet F.plain_extend_loop _, ?_⟩
  refine zip_loop (A := A.in1) (X := X) (pins := pins) (σ := σ) hh Sp m1 m2 nS p1 p2 hle (fun s' H' ts acc c g I' fS e hv => ⟨rfl, k s' H' ts _ g fS.1 (Inv.track I' fS e hv ?_)⟩) _ 0 _ H [] #[] _ rfl (Nat.zero_le _) .nil (I.kept (t' := s.toks) k4) hf (I.fpOk (Nat.le_refl _) (I.hok.fresh (Nat.le_refl _))) hS4 .nil (ZSt.at st fun c o _ e => k4 c o e)
  have := g.len
  rw [List.length_zip] at this
  omega
end

def tListZ (K : PySem.W.Frag) (ta : TA) : TE := fun σ H Q => ta σ H fun vs H1 => ∃ (a b : Src) (xs ys : List V), vs = [.ref a.ad, .ref b.ad] ∧ SqS K H1 a xs ∧ SqS K H1 b ys ∧
  ∀ ts H2 q, Grown H1 (xs.zip ys) ts H2 → H2 q = none → Q (.ref q) (upd H2 q (.lst ts))
/-- list(zip(e, e2)) -/
theorem pe_listZ {X : Cx} {e e2 : Expr} {ta : TA} {p pos p2 pos2 : Pos} (hc : X.calm = true) (hl : Gl X "list") (hml : X.mg "list" = none) (hg : Gl X "zip") (hm : X.mg "zip" = none) (ha : PA X [e, e2] ta)
    (hs : starEach [e, e2] X.env = (false, eval e X.env) :: starEach [e2] X.env := by rfl) (hpl : (backTo pos2 (starEach [e2] X.env)).any (·.1) = false := by rfl)
    (h2 : starEach [.Call (.Name "zip" p2) [e, e2] [] pos2] X.env = (false, eval (.Call (.Name "zip" p2) [e, e2] [] pos2) X.env) :: starEach [] X.env := by rfl) :
    PE X (.Call (.Name "list" p) [.Call (.Name "zip" p2) [e, e2] [] pos2] [] pos) (tListZ X.K ta) := by
  refine ⟨fun pins s σ H Q I h => ?_⟩
  have inner : wpAny (model X.prog X.w) X.A (eval (.Call (.Name "zip" p2) [e, e2] [] pos2) X.env) (fun u s1 => ∃ (H1 : Hp) (z TI TO i1 i2 : Addr) (a b : Src) (xs ys : List V), u = .ref z ∧ ZipSep2 z TI TO i1 i2 [i1, a.ad] [i2, b.ad] ∧ a.ad ≠ i1 ∧ b.ad ≠ i2 ∧ Inv X pins σ H1 s1 ∧ SqS X.K H1 a xs ∧ SqS X.K H1 b ys ∧ xs.length ≤ sizeLine ∧
      (∀ c ∈ [z, TI, TO, i1, i2], FpOk X pins H1 c) ∧ IsZip s1.heap z TI TO .none ∧ ZSt z TI TO i1 i2 a b 0 H1 s1.heap ∧ ∀ ts H2 q, Grown H1 (xs.zip ys) ts H2 → H2 q = none → Q (.ref q) (upd H2 q (.lst ts))) X.xe s := by
    refine Call_ (ld_blt I hg hm PyProof.Rows.boot_zip (PyProof.Rows.callWith_type1 (thn (ha.run pos2 pins s σ H _ I h) fun us s1 ⟨vs, H1, I1, r1, q1⟩ => ?_) hs hpl))
    obtain ⟨a, b, xs, ys, ex, hqx, hqy, q⟩ := q1
    subst ex
    cases r1 with
    | cons r rr =>
      cases rr with
      | cons r' rr =>
        cases rr
        cases r
        cases r'
        obtain ⟨its, rv, p1, z1, la⟩ := Inv.src I1 hqx
        obtain ⟨its2, rv2, p2, z2, lb⟩ := Inv.src I1 hqy
        refine zip_begins2 (begS a its.toArray) (begS b its2.toArray) p1 p2 fun h' hz hTI hTO g1 g2 hsz hk => ?_
        refine ⟨H1, s1.heap.objs.size + 4, s1.heap.objs.size + 2, s1.heap.objs.size + 3, s1.heap.objs.size, s1.heap.objs.size + 1, a, b, xs, ys, rfl, zip_sep2 (fp1 := [a.ad]) (fp2 := [b.ad]) (fun c hc => by rw [List.mem_singleton.mp hc]; exact la) (fun c hc => by rw [List.mem_singleton.mp hc]; exact lb),
          Nat.ne_of_lt la, Nat.ne_of_lt (Nat.lt_succ_of_lt lb), I1.kept (t' := s1.toks) hk, hqx, hqy, z1, fun c hcm => ?_, hz, ⟨hTI, itS_new g1, itS_new g2, ⟨_, _, hTO⟩, .inl hz⟩, q⟩
        have e' : c = s1.heap.objs.size + 4 ∨ c = s1.heap.objs.size + 2 ∨ c = s1.heap.objs.size + 3 ∨ c = s1.heap.objs.size ∨ c = s1.heap.objs.size + 1 := by simpa using hcm
        have hle : s1.heap.objs.size ≤ c := by
          rcases e' with z | z | z | z | z <;> rw [z] <;> first | exact Nat.le_add_right _ _ | exact Nat.le_refl _
        exact I1.fpOk hle (I1.hok.fresh hle)
  refine Call_ (ld_blt I hl hml boot_list (PyProof.Rows.callWith_type1 (args_cons (thn inner fun u s1 ⟨H1, z, TI, TO, i1, i2, a, b, xs, ys, eu, Sp, m1, m2, I1, g1, g2, hle, hf, hz, st, q⟩ => args_nil ?_) h2) h2))
  subst eu
  exact call_list_zip (I1.ok.hd hc) Sp m1 m2 I1 g1 g2 hle hf hz st fun s' H2 ts r g n I2 => ⟨.ref r, _, I2, rfl, q ts H2 r g n⟩
end PL
set_option Elab.async false
set_option linter.all false
set_option maxRecDepth 100000
set_option maxHeartbeats 4000000
/-! PL2: list(zip(xs, ys)) as a function on contents. -/
namespace PL
open PySem PySem.Spec PyProof.Rows L2
theorem Bag.grown {R : RE} {e : En} {F H : Hp} {B : Bg} (hB : Bag R e F H B) {prs : List (V × V)} {ts : List V} {H2 : Hp} (g : Grown H prs ts H2) : ∀ qs : List PV, qs.length = prs.length → (∀ (i : Nat) (x y : V), prs[i]? = some (x, y) → ∃ p q : PV, qs[i]? = some (PV.tup [p, q]) ∧ Rp R F p x ∧ Rp R F q y) →
    ∃ F', Sub F F' ∧ Bag R e F' H2 B ∧ RpL R F' qs ts := by
  induction g with
  | nil =>
    intro qs hl _
    obtain rfl := List.length_eq_zero_iff.mp hl
    exact ⟨F, .refl, hB, .nil⟩
  | @snoc ps ts H1 T x y g n ih =>
    intro qs hl hq
    rw [List.length_append] at hl
    simp only [List.length_cons, List.length_nil] at hl
    obtain ⟨p, q, e1, rx, ry⟩ := hq ps.length x y (by rw [List.getElem?_append_right (Nat.le_refl _)]; simp)
    obtain ⟨F', m, B', r⟩ := ih (qs.take ps.length) (by rw [List.length_take]; omega) fun i u v h => by
      have hi := (List.getElem?_eq_some_iff.mp h).1
      obtain ⟨p', q', a, b, c⟩ := hq i u v (by rw [List.getElem?_append_left hi]; exact h)
      exact ⟨p', q', by rw [List.getElem?_take_of_lt hi]; exact a, b, c⟩
    have es : qs = qs.take ps.length ++ [PV.tup [p, q]] := by
      have := List.take_add_one (l := qs) (i := ps.length)
      rw [e1, List.take_of_length_le (by omega)] at this
      exact this
    have nF := (B'.new n).1
    refine ⟨upd F' T (.tup [x, y]), m.trans (sub_upd nF), B'.lay_ice n, ?_⟩
    rw [es]
    refine (r.mono (sub_upd nF)).append (.one (.tup (.inl upd_same) ?_))
    exact .cons ((rx.mono m).mono (sub_upd nF)) (.cons ((ry.mono m).mono (sub_upd nF)) .nil)
def eListZ (fs : PFs) : PF := fun ρ => (fs ρ).bind fun x => match x.1 with
  | [r, s] => (seqOf (tmpOf r)).bind fun xs => (seqOf (tmpOf s)).map fun ys => (.own (zipP xs ys), x.2)
  | _ => none
theorem eListZ_some {fs : PFs} {ρ ρ' : List Sl} {t : Sl} (q : eListZ fs ρ = some (t, ρ')) : ∃ r s xs ys, fs ρ = some ([r, s], ρ') ∧ seqOf (tmpOf r) = some xs ∧ seqOf (tmpOf s) = some ys ∧ t = .own (zipP xs ys) := by
  unfold eListZ at q
  rw [Option.bind_eq_some_iff] at q
  obtain ⟨⟨l, ρ1⟩, h1, q⟩ := q
  split at q
  · rename_i r s e1
    dsimp only at e1
    subst e1
    rw [Option.bind_eq_some_iff] at q
    obtain ⟨xs, h2, q⟩ := q
    rw [Option.map_eq_some_iff] at q
    obtain ⟨ys, h3, q⟩ := q
    cases q
    exact ⟨r, s, xs, ys, h1, h2, h3, rfl⟩
  · cases q
theorem stListZ {fs : PFs} {ρ ρ1 : List Sl} {r s : Sl} {xs ys : List PV} (h : fs ρ = some ([r, s], ρ1)) (h1 : seqOf (tmpOf r) = some xs) (h2 : seqOf (tmpOf s) = some ys) : eListZ fs ρ = some (.own (zipP xs ys), ρ1) := by
  unfold eListZ
  rw [h]
  simp only [Option.bind_some, h1, h2, Option.map_some]
section
variable {X : Cx} {R : RE} {a b : Expr} {fs : PFs} {p pos p2 pos2 : Pos}
theorem ev_listZ (hK : R.K = X.K) (hc : X.calm = true) (hl : Gl X "list") (hml : X.mg "list" = none) (hg : Gl X "zip") (hm : X.mg "zip" = none) (h : Av X R [a, b] fs)
    (hs : starEach [a, b] X.env = (false, eval a X.env) :: starEach [b] X.env := by rfl) (hpl : (backTo pos2 (starEach [b] X.env)).any (·.1) = false := by rfl)
    (h2 : starEach [.Call (.Name "zip" p2) [a, b] [] pos2] X.env = (false, eval (.Call (.Name "zip" p2) [a, b] [] pos2) X.env) :: starEach [] X.env := by rfl) :
    Ev X R (.Call (.Name "list" p) [.Call (.Name "zip" p2) [a, b] [] pos2] [] pos) (eListZ fs) := by
  refine ⟨fun ρ r ρ' q => ?_, pe_mono (pe_listZ hc hl hml hg hm h.pa hs hpl h2) fun σ H Q q => ?_⟩
  · obtain ⟨r, s, xs, ys, h1, _⟩ := eListZ_some q
    exact h.len _ _ _ h1
  · obtain ⟨e, F, ρ, tm, t, ρ', hl, hB, hf, k⟩ := q
    obtain ⟨r, s, xs, ys, h1, h2, h3, rfl⟩ := eListZ_some hf
    refine ⟨e, F, ρ, tm, _, ρ', hl, hB, h1, fun vs H1 F1 B1 k1 => ?_⟩
    match vs, Paired.len k1 with
    | [v1, v2], _ =>
      have e1 : ([r, s].map tmpOf).zip ([v1, v2].map some) = [(tmpOf r, some v1), (tmpOf s, some v2)] := rfl
      rw [e1] at B1
      have x1 : SlR R F1 H1 (tmpOf r) (some v1) := B1.mem (p := (tmpOf r, some v1)) (by simp)
      have x2 : SlR R F1 H1 (tmpOf s) (some v2) := B1.mem (p := (tmpOf s, some v2)) (by simp)
      obtain ⟨s1, ex1, kd1⟩ := src_of' x1 B1.sub h2
      obtain ⟨s2, ex2, kd2⟩ := src_of' x2 B1.sub h3
      subst ex1 ex2
      obtain ⟨ws1, hq1, hr1⟩ := src_now kd1 h2 x1 B1.sub
      obtain ⟨ws2, hq2, hr2⟩ := src_now kd2 h3 x2 B1.sub
      rw [hK] at hq1 hq2
      refine ⟨s1, s2, ws1, ws2, rfl, hq1, hq2, fun ts H2 q g n => ?_⟩
      rw [show ∀ A : Bg, A ++ [(tmpOf r, some (V.ref s1.ad)), (tmpOf s, some (V.ref s2.ad))] = (A ++ [(tmpOf r, some (V.ref s1.ad))]) ++ [(tmpOf s, some (V.ref s2.ad))] from fun A => by simp] at B1
      have B2 := B1.pop.pop
      obtain ⟨F', m, B3, rr⟩ := B2.grown g (zipP xs ys) (by rw [zipP_len, List.length_zip, hr1.length, hr2.length]) fun i x y hxy => by
        obtain ⟨a1, a2⟩ := List.getElem?_zip_eq_some.mp hxy
        obtain ⟨p, b1, c1⟩ := hr1.get a1
        obtain ⟨q, b2, c2⟩ := hr2.get a2
        exact ⟨p, q, zipP_get b1 b2, c1, c2⟩
      exact k _ _ F' (B3.new_lst n rr) pk_own
end
end PL
set_option Elab.async false
set_option linter.all false
set_option maxRecDepth 100000
set_option maxHeartbeats 4000000
/-! PL3: more steps. -/
namespace PL
open PySem
theorem stExtend {i : Nat} {f : PF} {ρ ρ1 : List Sl} {r : Sl} {xs0 xs ys : List PV} (h0 : ρ[i]? = some (.own xs0)) (h1 : f ρ = some (r, ρ1)) (c : cont ρ1 r = some (.lst ys)) (h3 : ρ1[i]? = some (.own xs)) (hl : xs.length + ys.length ≤ lineN) :
    eExtend i f ρ = some (.fz .non, ρ1.set i (.own (xs ++ ys))) := by
  unfold eExtend
  rw [h0]
  show (f ρ).bind _ = _
  rw [h1, Option.bind_some]
  show (cont ρ1 r).bind _ = _
  rw [c, Option.bind_some]
  show (match PV.lst ys, ρ1[i]? with
    | .lst ys, some (.own xs) => if xs.length + ys.length ≤ lineN then some (Sl.fz PV.non, ρ1.set i (.own (xs ++ ys))) else none
    | _, _ => none) = _
  rw [h3]
  exact if_pos hl
end PL
set_option Elab.async false
set_option linter.all false
set_option maxRecDepth 100000
set_option maxHeartbeats 4000000
/-! PL4: sorted(xs) of ints, texts, tuples, lists of these. -/
namespace PL
open PySem PySem.Spec PyProof.Rows L2 PySem.W
def rSortedD (K : PySem.W.Frag) : List V → Hp → VK → Prop := fun vs H Q => ∃ (p : Addr) (bs : List (V × PyData)), vs = [.ref p] ∧ SqL K H p (bs.map Prod.fst) ∧ (∀ b ∈ bs, Dp K H b.1 b.2) ∧ AllAlike (bs.map Prod.snd) ∧ Sortable (bs.map Prod.snd) ∧ (∀ b ∈ bs, b.2.depth ≤ 61) ∧
  ∀ q, H q = none → Q (.ref q) (upd H q (.lst ((bs.mergeSort (dataLe false Prod.snd)).map Prod.fst)))
theorem each_vals : ∀ {bs : List (V × PyData)} {its : List Value}, Vals (bs.map Prod.fst) its → EachIs (fun v b => RelV b.1 v) its bs
  | [], _, h => by cases h; exact .nil
  | b :: bs, _, h => by
    cases h with
    | cons r t => exact .cons r (each_vals t)
theorem vals_each : ∀ {bs : List (V × PyData)} {its : List Value}, EachIs (fun v b => RelV b.1 v) its bs → Vals (bs.map Prod.fst) its
  | _, _, .nil => .nil
  | _, _, .cons r t => .cons r (vals_each t)
theorem each_with {α β : Type} {R S : α → β → Prop} : ∀ {as : List α} {bs : List β}, EachIs R as bs → (∀ a b, b ∈ bs → R a b → S a b) → EachIs S as bs
  | _, _, .nil, _ => .nil
  | _, _, .cons r t, f => .cons (f _ _ List.mem_cons_self r) (each_with t fun a b hb => f a b (List.mem_cons_of_mem _ hb))
theorem cr_sortedD {X : Cx} (hu : X.A.units + 64 < cLine) : CallR X (.builtin "sorted") (rSortedD X.K) := by
  intro pins s σ H vs us Q I r h
  obtain ⟨p, bs, rfl, hs, hd, ha, hk, hdep, q⟩ := h
  obtain ⟨its, rv, hl, hz⟩ := I.list hs
  rw [Vals.ref1 r]
  have e := each_vals rv
  have er : EachIs (fun v b => ∃ as, Reads s.heap v (Prod.snd b) as) its bs := each_with e fun v b hb rb => Dp.reads I b.2 b.1 v (hd b hb) rb
  rw [List.length_map] at hz
  refine sorted_data (R := fun v b => RelV b.1 v) (enc := Prod.snd) hl.isList e er ha hk hz (fun b hb => by have := hdep b hb; omega) fun out ho eo => ?_
  obtain ⟨ep, he'⟩ := PyProof.Rows.sortedAll_at s.heap its out.toArray
  have k1 := vals_each eo
  have hlen : ((bs.mergeSort (dataLe false Prod.snd)).map Prod.fst).length ≤ sizeLine := by
    rw [List.length_map, List.length_mergeSort]
    exact hz
  exact ⟨.ref _, upd H (s.heap.objs.size + 1) (.lst ((bs.mergeSort (dataLe false Prod.snd)).map Prod.fst)), I.laid (t' := s.toks) (fun _ _ => PyProof.Rows.sortedAll_old) (Nat.le_succ _) ⟨hlen, out, ep, k1, he'⟩, rfl, q _ (I.hok.fresh (Nat.le_succ _))⟩
/-- the order of plain values that sorted goes by -/
def leP : PV → PV → Bool := dataLe false toD
def isTupN : PV → Bool
  | .tup (_ :: _) => true
  | _ => false
def isOth : PV → Bool
  | .tup _ => false
  | .non => false
  | _ => true
def sortB (xs : List PV) : Bool := datNs 60 xs && (xs.all fun p => xs.all fun q => alike (toD p) (toD q)) && (xs.all isTupN || xs.all isOth)
def clSorted : List PV → Option Vl
  | [.lst xs] => if sortB xs = true then some (.own (xs.mergeSort leP)) else none
  | _ => none
theorem datNs_mem : ∀ {n : Nat} {xs : List PV}, datNs n xs = true → ∀ p ∈ xs, datN n p = true
  | n, x :: xs, h, p, hp => by
    rw [datNs, Bool.and_eq_true] at h
    rcases List.mem_cons.mp hp with e | e
    · rw [e]; exact h.1
    · exact datNs_mem h.2 p e
theorem rpl_cs {R : RE} {F : Hp} : ∀ {ps : List PV} {vs : List V}, RpL R F ps vs → ∃ cs : List (PV × V), cs.map Prod.fst = ps ∧ cs.map Prod.snd = vs ∧ ∀ c ∈ cs, Rp R F c.1 c.2
  | [], _, .nil => ⟨[], rfl, rfl, fun _ h => by cases h⟩
  | p :: ps, v :: vs, .cons r t => by
    obtain ⟨cs, e1, e2, h⟩ := rpl_cs t
    refine ⟨(p, v) :: cs, by rw [List.map_cons, e1], by rw [List.map_cons, e2], fun c hc => ?_⟩
    rcases List.mem_cons.mp hc with z | z
    · rw [z]; exact r
    · exact h c z
theorem rpl_of {R : RE} {F : Hp} : ∀ {cs : List (PV × V)}, (∀ c ∈ cs, Rp R F c.1 c.2) → RpL R F (cs.map Prod.fst) (cs.map Prod.snd)
  | [], _ => .nil
  | c :: cs, h => .cons (h c List.mem_cons_self) (rpl_of fun d hd => h d (List.mem_cons_of_mem _ hd))
theorem cok_sorted {R : RE} : CallOk R clSorted (rSortedD R.K) := by
  intro e F H B ps xs r Q hB hp ho k
  unfold clSorted at ho
  split at ho
  · rename_i zs
    split at ho
    · rename_i c
      cases ho
      obtain ⟨x, rfl, q⟩ := hp.one
      unfold sortB at c
      rw [Bool.and_eq_true, Bool.and_eq_true] at c
      obtain ⟨⟨c1, c2⟩, c3⟩ := c
      have key : ∀ (a : Addr) (vs : List V), x = .ref a → SqL R.K H a vs → RpL R F zs vs → rSortedD R.K [x] H Q := by
        intro a vs ex h2 r1
        obtain ⟨cs, e1, e2, hc⟩ := rpl_cs r1
        have m1 : (cs.map fun c => (c.2, toD c.1)).map Prod.fst = vs := by rw [List.map_map, ← e2]; rfl
        have m2 : (cs.map fun c => (c.2, toD c.1)).map Prod.snd = zs.map toD := by rw [List.map_map, ← e1, List.map_map]; rfl
        refine ⟨a, cs.map fun c => (c.2, toD c.1), by rw [ex], by rw [m1]; exact h2, fun b hb => ?_, ?_, ?_, fun b hb => ?_, fun q' n => ?_⟩
        · obtain ⟨d, hd, rfl⟩ := List.mem_map.mp hb
          exact dp_of hB.sub 60 d.1 d.2 (datNs_mem c1 d.1 (by rw [← e1]; exact List.mem_map.mpr ⟨d, hd, rfl⟩)) (hc d hd)
        · rw [m2]
          intro d hd d' hd'
          obtain ⟨p, hp', rfl⟩ := List.mem_map.mp hd
          obtain ⟨p', hp'', rfl⟩ := List.mem_map.mp hd'
          exact List.all_eq_true.mp (List.all_eq_true.mp c2 p hp') p' hp''
        · rw [m2]
          rw [Bool.or_eq_true] at c3
          rcases c3 with c3 | c3
          · refine .inl fun d hd => ?_
            obtain ⟨p, hp', rfl⟩ := List.mem_map.mp hd
            have := List.all_eq_true.mp c3 p hp'
            unfold isTupN at this
            split at this
            · exact ⟨_, _, by rw [toD, toDs]⟩
            · cases this
          · refine .inr fun d hd => ?_
            obtain ⟨p, hp', rfl⟩ := List.mem_map.mp hd
            have h1 := List.all_eq_true.mp c3 p hp'
            have h2 := datNs_mem c1 p hp'
            cases p with
            | tup _ => cases h1
            | non => cases h1
            | scr _ => simp [datN] at h2
            | ins _ _ => simp [datN] at h2
            | ty _ => simp [datN] at h2
            | cls _ => simp [datN] at h2
            | dct _ _ => simp [datN] at h2
            | _ => exact ⟨fun z => (by rw [toD] at z; cases z), fun us z => (by rw [toD] at z; cases z)⟩
        · obtain ⟨d, hd, rfl⟩ := List.mem_map.mp hb
          exact depth_toD 60 d.1 (datNs_mem c1 d.1 (by rw [← e1]; exact List.mem_map.mpr ⟨d, hd, rfl⟩))
        · have h1 : (cs.map fun c => (c.2, toD c.1)).mergeSort (dataLe false Prod.snd) = (cs.mergeSort (dataLe false fun c => toD c.1)).map fun c => (c.2, toD c.1) := (List.map_mergeSort (r := dataLe false fun c : PV × V => toD c.1) (s := dataLe false Prod.snd) (f := fun c : PV × V => (c.2, toD c.1)) (fun _ _ _ _ => rfl)).symm
          have h2' : zs.mergeSort leP = (cs.mergeSort (dataLe false fun c => toD c.1)).map Prod.fst := by
            rw [← e1]
            exact (List.map_mergeSort (r := dataLe false fun c : PV × V => toD c.1) (s := leP) (f := Prod.fst) (fun _ _ _ _ => rfl)).symm
          have hm : ∀ c ∈ cs.mergeSort (dataLe false fun c => toD c.1), Rp R F c.1 c.2 := fun c hc' => hc c ((List.mergeSort_perm _ _).mem_iff.mp hc')
          have := rpl_of hm
          rw [← h2'] at this
          rw [h1, List.map_map]
          exact k _ _ _ (hB.new_lst n this)
      obtain ⟨a, vs, ex, h2, r1⟩ := q.lst hB.sub
      exact key a vs ex (SqL.of h2) r1
    · cases ho
  · cases ho
end PL
set_option Elab.async false
set_option linter.all false
set_option maxRecDepth 100000
set_option maxHeartbeats 4000000
/-! PL5: x += e of ints; xs[::-1]; their steps. -/
namespace PL
open PySem PySem.Spec PyProof.Rows L2
def sAug (i : Nat) (fa : PF) : PSF := fun ρ => match ρ[i]? with
  | some (.fz (.int a)) => (fa ρ).bind fun x => match x.1 with
    | .fz (.int b) => some (.nx, x.2.set i (.fz (.int (a + b))))
    | _ => none
  | _ => none
theorem sAug_some {i : Nat} {fa : PF} {ρ ρ' : List Sl} {fl : Fl} (h : sAug i fa ρ = some (fl, ρ')) : ∃ a b ρ1, ρ[i]? = some (.fz (.int a)) ∧ fa ρ = some (.fz (.int b), ρ1) ∧ fl = .nx ∧ ρ' = ρ1.set i (.fz (.int (a + b))) := by
  unfold sAug at h
  split at h
  · rename_i a e1
    rw [Option.bind_eq_some_iff] at h
    obtain ⟨⟨r, ρ1⟩, q1, h⟩ := h
    split at h
    · rename_i b e2
      dsimp only at e2
      subst e2
      cases h
      exact ⟨a, b, ρ1, e1, q1, rfl, rfl⟩
    · cases h
  · cases h
theorem stAug {i : Nat} {fa : PF} {ρ ρ1 : List Sl} {a b : Int} (h0 : ρ[i]? = some (.fz (.int a))) (h1 : fa ρ = some (.fz (.int b), ρ1)) : sAug i fa ρ = some (.nx, ρ1.set i (.fz (.int (a + b)))) := by
  unfold sAug
  rw [h0]
  show (fa ρ).bind _ = _
  rw [h1, Option.bind_some]
def eRev (fa : PF) : PF := fun ρ => (fa ρ).bind fun x => (cont x.2 x.1).bind fun p => match p with
  | .lst xs => some (.own xs.reverse, x.2)
  | _ => none
theorem eRev_some {fa : PF} {ρ ρ' : List Sl} {r : Sl} (h : eRev fa ρ = some (r, ρ')) : ∃ r1 xs, fa ρ = some (r1, ρ') ∧ cont ρ' r1 = some (.lst xs) ∧ r = .own xs.reverse := by
  unfold eRev at h
  rw [Option.bind_eq_some_iff] at h
  obtain ⟨⟨r1, ρ1⟩, q1, h⟩ := h
  rw [Option.bind_eq_some_iff] at h
  obtain ⟨p, q2, h⟩ := h
  split at h
  · cases h; exact ⟨r1, _, q1, q2, rfl⟩
  · cases h
theorem stRev {fa : PF} {ρ ρ1 : List Sl} {r : Sl} {xs : List PV} (h : fa ρ = some (r, ρ1)) (c : cont ρ1 r = some (.lst xs)) : eRev fa ρ = some (.own xs.reverse, ρ1) := by
  unfold eRev
  rw [h, Option.bind_some]
  show (cont ρ1 r).bind _ = _
  rw [c]; rfl
section
variable {X : Cx} {R : RE} {pr : List Nat} {a : PySem.Expr} {fa : PF} {pos : Pos}
theorem sv_aug {i : Nat} {x : Str} {pos' : Pos} (hN : X.N.Nodup) (hi : X.N[i]? = some x) (hx : Loc X.env.scope x) (hp : i ∉ pr) (h : Ev X R a fa) (hf : X.fn x = true ∨ X.env.scope.names.lookup x = some .local := by first | exact .inl rfl | exact .inr rfl | assumption) :
    Sv X R pr (.AugAssign (.Name x pos') .Add a pos) (sAug i fa) := by
  refine ⟨fun ρ r ρ' q => ?_, ps_mono (ps_aug hN hi hx h.pe ip_add hf) fun D σ H q => ?_⟩
  · obtain ⟨_, _, ρ1, _, q1, _, rfl⟩ := sAug_some q
    rw [List.length_set]; exact h.len _ _ _ q1
  · obtain ⟨e, F, ρ, tm, fl, ρ', hl, hB, hf, k⟩ := q
    obtain ⟨m, b, ρ1, q0, q1, rfl, rfl⟩ := sAug_some hf
    have l1 := h.len _ _ _ q1
    obtain ⟨hi1, _⟩ := List.getElem?_eq_some_iff.mp q0
    have hz : (ρ.zip σ ++ tm)[i]? = some (.fz (.int m), σ[i]'(by omega)) := by
      rw [List.getElem?_append_left (by rw [List.length_zip]; omega)]
      exact zip_get q0 (List.getElem?_eq_getElem (by omega))
    obtain ⟨y, ey, ry⟩ := hB.all _ _ _ hz
    cases ry
    refine ⟨.int m, ?_, e, F, ρ, tm, _, ρ1, hl, hB, q1, fun x1 H1 F1 B1 _ => ?_⟩
    · rw [← ey]; exact List.getElem?_eq_getElem (by omega)
    · have ex := (B1.rq_fz (x := x1) (p := .int b) app_last).int
      refine ⟨m, b, rfl, ex, ?_⟩
      have B2 := B1.pop.push_fz (.int (m + b))
      have B3 := Bag.slot (i := i) (C := []) B2 (by omega)
      rw [List.append_nil] at B3
      exact k _ H1 F1 (by rw [List.length_set]) (pr_set hp) B3
theorem ev_rev (hK : R.K = X.K) {k : Nat} {p1 p2 p3 : Pos} (ha : Ev X R a fa) : Ev X R (.Subscript a (.Slice none none (some (.UnaryOp .USub (.Constant (.int 1) k p1) p2)) p3) pos) (eRev fa) := by
  refine ⟨fun ρ r ρ' q => ?_, pe_mono (pe_revL ha.pe) fun σ H Q q => ?_⟩
  · obtain ⟨r1, xs, q1, _⟩ := eRev_some q
    exact ha.len _ _ _ q1
  · obtain ⟨e, F, ρ, tm, r, ρ', hl', hB, hf, k⟩ := q
    obtain ⟨r1, xs, h1, h4, rfl⟩ := eRev_some hf
    refine ⟨e, F, ρ, tm, r1, ρ', hl', hB, h1, fun x1 H1 F1 B1 k1 => ?_⟩
    have B1' := B1
    rw [List.append_assoc] at B1'
    have g1 : (ρ'.zip σ ++ (tm ++ [(tmpOf r1, some x1)]))[(ρ'.zip σ ++ tm).length]? = some (tmpOf r1, some x1) := by
      rw [← List.append_assoc]; exact app_last
    have q1 := B1'.rq g1 k1 h4
    obtain ⟨b, vs, ex, h2, rr⟩ := q1.lst B1.sub
    exact ⟨b, vs, ex, SqL.of h2, fun p n => k _ _ _ (B1.pop.new_lst n rr.reverse) pk_own⟩
end
end PL
set_option Elab.async false
set_option linter.all false
set_option maxRecDepth 100000
set_option maxHeartbeats 4000000
/-! PL6: the raw functions told by typed ones: what is known of the slots, one rule for each construct. -/
namespace PL
open PySem
/-! ### how typed values are laid as PV -/
abbrev eO {α : Type} (e : α → PV) : Option α → PV := fun o => o.elim .non e
abbrev eT {α : Type} (e : α → PV) (xs : List α) : PV := .tup (xs.map e)
abbrev eL {α : Type} (e : α → PV) (xs : List α) : PV := .lst (xs.map e)
abbrev eP1 {α : Type} (e : α → PV) (p : α) : PV := .tup [e p]
abbrev eP2 {α β : Type} (e : α → PV) (f : β → PV) (p : α × β) : PV := .tup [e p.1, f p.2]
abbrev eP3 {α β γ : Type} (e : α → PV) (f : β → PV) (g : γ → PV) (p : α × β × γ) : PV := .tup [e p.1, f p.2.1, g p.2.2]
abbrev eP4 {α β γ δ : Type} (e : α → PV) (f : β → PV) (g : γ → PV) (h : δ → PV) (p : α × β × γ × δ) : PV := .tup [e p.1, f p.2.1, g p.2.2.1, h p.2.2.2]
abbrev eU : Unit → PV := fun _ => .non
abbrev eA : PV → PV := fun p => p
abbrev eN1 {α : Type} (c : Nat) (e : α → PV) (p : α) : PV := .ins c [e p]
abbrev eN2 {α β : Type} (c : Nat) (e : α → PV) (f : β → PV) (p : α × β) : PV := .ins c [e p.1, f p.2]
abbrev eN3 {α β γ : Type} (c : Nat) (e : α → PV) (f : β → PV) (g : γ → PV) (p : α × β × γ) : PV := .ins c [e p.1, f p.2.1, g p.2.2]
abbrev eN4 {α β γ δ : Type} (c : Nat) (e : α → PV) (f : β → PV) (g : γ → PV) (h : δ → PV) (p : α × β × γ × δ) : PV := .ins c [e p.1, f p.2.1, g p.2.2.1, h p.2.2.2]
/-! ### what is known of slots -/
inductive AS where
  | any | fz (p : PV) | own (xs : List PV) | ls (xs : List PV) | obj (c : Nat) (xs : List PV)
def AS.ok : AS → Sl → Prop
  | .any, _ => True
  | .fz p, s => s = .fz p
  | .own xs, s => s = .own xs
  | .ls xs, s => s = .own xs ∨ s = .fz (.lst xs)
  | .obj c xs, s => s = .obj c xs
inductive Ag : List AS → List Sl → Prop
  | nil : Ag [] []
  | cons {a : AS} {s : Sl} {A : List AS} {ρ : List Sl} : a.ok s → Ag A ρ → Ag (a :: A) (s :: ρ)
theorem Ag.len : ∀ {A : List AS} {ρ : List Sl}, Ag A ρ → A.length = ρ.length
  | _, _, .nil => rfl
  | _, _, .cons _ h => by rw [List.length_cons, List.length_cons, h.len]
theorem Ag.get : ∀ {A : List AS} {ρ : List Sl} {i : Nat} {a : AS}, Ag A ρ → A[i]? = some a → ∃ s, ρ[i]? = some s ∧ a.ok s
  | _, _, _, _, .nil, h => by simp at h
  | _, _, 0, _, .cons h _, e => by simp at e; subst e; exact ⟨_, rfl, h⟩
  | _, _, i + 1, _, .cons _ h, e => by
    obtain ⟨s, h1, h2⟩ := h.get (i := i) (by simpa using e)
    exact ⟨s, by simpa using h1, h2⟩
theorem Ag.set : ∀ {A : List AS} {ρ : List Sl} {i : Nat} {a : AS} {s : Sl}, Ag A ρ → a.ok s → Ag (A.set i a) (ρ.set i s)
  | _, _, _, _, _, .nil, _ => .nil
  | _, _, 0, _, _, .cons _ h, e => .cons e h
  | _, _, i + 1, _, _, .cons h0 h, e => .cons h0 (h.set e)
theorem Ag.drop1 : ∀ {A : List AS} {ρ : List Sl} {i : Nat}, Ag A ρ → Ag (A.set i .any) ρ
  | _, _, _, .nil => .nil
  | _, _, 0, .cons _ h => .cons trivial h
  | _, _, i + 1, .cons h0 h => .cons h0 h.drop1
theorem Ag.app : ∀ {A B : List AS} {ρ τ : List Sl}, Ag A ρ → Ag B τ → Ag (A ++ B) (ρ ++ τ)
  | _, _, _, _, .nil, h => h
  | _, _, _, _, .cons h0 h, k => .cons h0 (h.app k)
theorem Ag.unset : ∀ {n : Nat} {ρ : List Sl}, ρ.length = n → Ag (List.replicate n .any) ρ
  | 0, [], _ => .nil
  | n + 1, _ :: ρ, h => .cons trivial (Ag.unset (by simpa using h))
/-- less is known -/
inductive Wk : List AS → List AS → Prop
  | nil : Wk [] []
  | r {a : AS} {A B : List AS} : Wk A B → Wk (a :: A) (a :: B)
  | a {a : AS} {A B : List AS} : Wk A B → Wk (a :: A) (.any :: B)
  | o {xs : List PV} {A B : List AS} : Wk A B → Wk (.own xs :: A) (.ls xs :: B)
  | f {xs : List PV} {A B : List AS} : Wk A B → Wk (.fz (.lst xs) :: A) (.ls xs :: B)
  | e {a b : AS} {A B : List AS} : a = b → Wk A B → Wk (a :: A) (b :: B)
theorem Ag.wk : ∀ {A B : List AS} {ρ : List Sl}, Wk A B → Ag A ρ → Ag B ρ
  | _, _, _, .nil, h => h
  | _, _, _, .r w, .cons h0 h => .cons h0 (h.wk w)
  | _, _, _, .a w, .cons h0 h => .cons trivial (h.wk w)
  | _, _, _, .o w, .cons h0 h => .cons (.inl h0) (h.wk w)
  | _, _, _, .f w, .cons h0 h => .cons (.inr h0) (h.wk w)
  | _, _, _, .e q w, .cons h0 h => .cons (q ▸ h0) (h.wk w)
theorem Wk.refl : ∀ {A : List AS}, Wk A A
  | [] => .nil
  | _ :: _ => .r Wk.refl
/-! ### answers -/
inductive RF where
  | fz (p : PV) | own (xs : List PV) | ls (xs : List PV) | pk (i : Nat) (xs : List PV)
def RF.pv : RF → PV
  | .fz p => p
  | .own xs => .lst xs
  | .ls xs => .lst xs
  | .pk _ xs => .lst xs
def RF.as : RF → AS
  | .fz p => .fz p
  | .own xs => .own xs
  | .ls xs => .ls xs
  | .pk _ _ => .any
def RF.ok (A : List AS) : RF → Sl → Prop
  | .fz p, s => s = .fz p
  | .own xs, s => s = .own xs
  | .ls xs, s => s = .own xs ∨ s = .fz (.lst xs)
  | .pk i xs, s => s = .fz (.lst xs) ∨ (s = .pk i ∧ (A[i]? = some (.own xs) ∨ A[i]? = some (.ls xs)))
/-- an answer that can be stored -/
def RF.np : RF → Prop
  | .pk _ _ => False
  | _ => True
def RF.kp (A B : List AS) : RF → Prop
  | .pk i _ => B[i]? = A[i]?
  | _ => True
theorem RF.ok_kp {A B : List AS} {r : RF} {s : Sl} (h : r.ok A s) (k : r.kp A B) : r.ok B s := by
  cases r with
  | pk i xs =>
    rcases h with h | ⟨h, h2⟩
    · exact .inl h
    · refine .inr ⟨h, ?_⟩
      have k : B[i]? = A[i]? := k
      rw [k]; exact h2
  | _ => exact h
theorem rf_cont {A : List AS} {r : RF} {s : Sl} {ρ : List Sl} (h : r.ok A s) (g : Ag A ρ) : PL.cont ρ s = some r.pv := by
  cases r with
  | fz p => rw [show s = .fz p from h]; rfl
  | own xs => rw [show s = .own xs from h]; rfl
  | ls xs =>
    rcases h with h | h <;> (rw [h]; rfl)
  | pk i xs =>
    rcases h with h | ⟨h, h2⟩
    · rw [h]; rfl
    · rw [h]
      rcases h2 with h2 | h2
      · obtain ⟨t, e, k⟩ := g.get h2
        rw [show t = .own xs from k] at e
        show (match ρ[i]? with | some (.fz p) => some p | some (.own xs) => some (PV.lst xs) | _ => none) = _
        rw [e]; rfl
      · obtain ⟨t, e, k⟩ := g.get h2
        rcases k with k | k
        · rw [k] at e
          show (match ρ[i]? with | some (.fz p) => some p | some (.own xs) => some (PV.lst xs) | _ => none) = _
          rw [e]; rfl
        · rw [k] at e
          show (match ρ[i]? with | some (.fz p) => some p | some (.own xs) => some (PV.lst xs) | _ => none) = _
          rw [e]; rfl
theorem rf_val {A : List AS} {r : RF} {s : Sl} (h : r.ok A s) (n : r.np) : valOf s = some r.pv := by
  cases r with
  | fz p => rw [show s = .fz p from h]; rfl
  | own xs => rw [show s = .own xs from h]; rfl
  | ls xs =>
    rcases h with h | h <;> (rw [h]; rfl)
  | pk i xs => exact absurd n id
/-- as a value that is given on -/
theorem RF.vl {A : List AS} {r : RF} {s : Sl} (h : r.ok A s) (n : r.np) : ∃ v : Vl, toVl s = some v ∧ v.sl = s ∧ r.as.ok v.sl ∧ ∀ B, r.ok B v.sl := by
  cases r with
  | fz p => rw [show s = .fz p from h]; exact ⟨.fz p, rfl, rfl, rfl, fun _ => rfl⟩
  | own xs => rw [show s = .own xs from h]; exact ⟨.own xs, rfl, rfl, rfl, fun _ => rfl⟩
  | ls xs =>
    rcases h with h | h
    · rw [h]; exact ⟨.own xs, rfl, rfl, .inl rfl, fun _ => .inl rfl⟩
    · rw [h]; exact ⟨.fz (.lst xs), rfl, rfl, .inr rfl, fun _ => .inr rfl⟩
  | pk i xs => exact absurd n id
theorem RF.tmp {A : List AS} {r : RF} {s : Sl} (h : r.ok A s) : r.as.ok (tmpOf s) := by
  cases r with
  | fz p => rw [show s = .fz p from h]; rfl
  | own xs => rw [show s = .own xs from h]; rfl
  | ls xs =>
    rcases h with h | h
    · rw [h]; exact .inl rfl
    · rw [h]; exact .inr rfl
  | pk i xs => trivial
def rfV : Vl → RF
  | .fz p => .fz p
  | .own xs => .own xs
theorem rfV_ok {A : List AS} {v : Vl} : (rfV v).ok A v.sl := by cases v <;> rfl
/-! ### expressions -/
def EJ (A : List AS) (f : PF) (r : RF) (B : List AS) : Prop := ∀ ρ, Ag A ρ → ∃ s ρ', f ρ = some (s, ρ') ∧ r.ok B s ∧ Ag B ρ'
def TJ (A : List AS) (t : PT') (b : Bool) (B : List AS) : Prop := ∀ ρ, Ag A ρ → ∃ ρ', t ρ = some (b, ρ') ∧ Ag B ρ'
def EJO {α : Type} (A : List AS) (f : PF) (m : Option α) (r : α → RF) (B : α → List AS) : Prop := ∀ v, m = some v → EJ A f (r v) (B v)
def TJO {α : Type} (A : List AS) (t : PT') (m : Option α) (c : α → Bool) (B : α → List AS) : Prop := ∀ v, m = some v → TJ A t (c v) (B v)
section
variable {α β γ : Type} {A A1 A2 A3 A4 B : List AS} {f g h' : PF} {fs : PFs} {r r1 r2 r3 : RF} {p q : PV} {i : Nat} {xs ys : List PV}
theorem ej_wk (d : EJ A f r A1) (w : Wk A1 B) (n : r.np) : EJ A f r B := fun ρ h => by
  obtain ⟨s, ρ', h1, h2, h3⟩ := d ρ h
  refine ⟨s, ρ', h1, ?_, h3.wk w⟩
  cases r with
  | pk _ _ => exact absurd n id
  | _ => exact h2
theorem ej_eq (d : EJ A f (.fz p) A1) (e : p = q) : EJ A f (.fz q) A1 := e ▸ d
theorem ej_eqO (d : EJ A f (.own xs) A1) (e : xs = ys) : EJ A f (.own ys) A1 := e ▸ d
theorem ej_re (d : EJ A f r A1) (e : r = r1) : EJ A f r1 A1 := e ▸ d
theorem ej_ls (d : EJ A f (.own xs) A1) : EJ A f (.ls xs) A1 := fun ρ h => by
  obtain ⟨s, ρ', h1, h2, h3⟩ := d ρ h
  exact ⟨s, ρ', h1, .inl h2, h3⟩
theorem ej_lsF (d : EJ A f (.fz (.lst xs)) A1) : EJ A f (.ls xs) A1 := fun ρ h => by
  obtain ⟨s, ρ', h1, h2, h3⟩ := d ρ h
  exact ⟨s, ρ', h1, .inr h2, h3⟩
theorem ej_uno {e : α → PV} {o : Option α} {v : α} (d : EJ A f (.fz (eO e o)) A1) (h : o = some v) : EJ A f (.fz (e v)) A1 := by
  subst h; exact d
theorem ej_c : EJ A (eC p) (.fz p) A := fun ρ h => ⟨_, _, rfl, rfl, h⟩
theorem ej_pk (e : A[i]? = some (.fz p)) : EJ A (ePk i) (.fz p) A := fun ρ h => by
  obtain ⟨s, h1, h2⟩ := h.get e
  rw [show s = .fz p from h2] at h1
  exact ⟨.fz p, ρ, by unfold ePk; rw [h1], rfl, h⟩
theorem ej_pkL (e : A[i]? = some (.own xs)) : EJ A (ePk i) (.pk i xs) A := fun ρ h => by
  obtain ⟨s, h1, h2⟩ := h.get e
  rw [show s = .own xs from h2] at h1
  exact ⟨.pk i, ρ, by unfold ePk; rw [h1], .inr ⟨rfl, .inl e⟩, h⟩
theorem ej_pkS (e : A[i]? = some (.ls xs)) : EJ A (ePk i) (.pk i xs) A := fun ρ h => by
  obtain ⟨s, h1, h2⟩ := h.get e
  rcases h2 with h2 | h2
  · rw [h2] at h1
    exact ⟨.pk i, ρ, by unfold ePk; rw [h1], .inr ⟨rfl, .inr e⟩, h⟩
  · rw [h2] at h1
    exact ⟨.fz (.lst xs), ρ, by unfold ePk; rw [h1], .inl rfl, h⟩
theorem ej_var (e : A[i]? = some (.fz p)) : EJ A (eVar i) (.fz p) A := fun ρ h => by
  obtain ⟨s, h1, h2⟩ := h.get e
  rw [show s = .fz p from h2] at h1
  exact ⟨.fz p, ρ, by unfold eVar; rw [h1], rfl, h⟩
theorem ej_varL (e : A[i]? = some (.own xs)) : EJ A (eVar i) (.fz (.lst xs)) (A.set i (.fz (.lst xs))) := fun ρ h => by
  obtain ⟨s, h1, h2⟩ := h.get e
  rw [show s = .own xs from h2] at h1
  exact ⟨.fz (.lst xs), _, by unfold eVar; rw [h1], rfl, h.set rfl⟩
theorem set_self {ρ : List Sl} {s : Sl} (h : ρ[i]? = some s) : ρ.set i s = ρ := by
  obtain ⟨hi, e⟩ := List.getElem?_eq_some_iff.mp h
  subst e
  exact List.set_getElem_self hi
theorem ej_varS (e : A[i]? = some (.ls xs)) : EJ A (eVar i) (.fz (.lst xs)) (A.set i (.fz (.lst xs))) := fun ρ h => by
  obtain ⟨s, h1, h2⟩ := h.get e
  rcases h2 with h2 | h2
  · rw [h2] at h1
    exact ⟨.fz (.lst xs), _, by unfold eVar; rw [h1], rfl, h.set rfl⟩
  · rw [h2] at h1
    refine ⟨.fz (.lst xs), ρ, by unfold eVar; rw [h1], rfl, ?_⟩
    have := h.set (i := i) (a := .fz (.lst xs)) (s := .fz (.lst xs)) rfl
    rwa [set_self h1] at this
theorem ej_mv (e : A[i]? = some (.fz p)) : EJ A (eMv i) (.fz p) A := fun ρ h => by
  obtain ⟨s, h1, h2⟩ := h.get e
  rw [show s = .fz p from h2] at h1
  exact ⟨.fz p, ρ, by unfold eMv; rw [h1], rfl, h⟩
theorem ej_mvL (e : A[i]? = some (.own xs)) : EJ A (eMv i) (.own xs) (A.set i .any) := fun ρ h => by
  obtain ⟨s, h1, h2⟩ := h.get e
  rw [show s = .own xs from h2] at h1
  exact ⟨.own xs, _, by unfold eMv; rw [h1], rfl, h.set trivial⟩
theorem ej_mvS (e : A[i]? = some (.ls xs)) : EJ A (eMv i) (.ls xs) (A.set i .any) := fun ρ h => by
  obtain ⟨s, h1, h2⟩ := h.get e
  rcases h2 with h2 | h2
  · rw [h2] at h1
    exact ⟨.own xs, _, by unfold eMv; rw [h1], .inl rfl, h.set trivial⟩
  · rw [h2] at h1
    exact ⟨.fz (.lst xs), ρ, by unfold eMv; rw [h1], .inr rfl, h.drop1⟩
/-! operators -/
theorem ej_bin {op : PV → PV → Option Vl} {v : Vl} (d1 : EJ A f r1 A1) (d2 : EJ A1 g r2 A2) (k : r1.kp A1 A2) (h : op r1.pv r2.pv = some v) : EJ A (eBin op f g) (rfV v) A2 := fun ρ hρ => by
  obtain ⟨s, ρ1, e1, o1, g1⟩ := d1 ρ hρ
  obtain ⟨t, ρ2, e2, o2, g2⟩ := d2 ρ1 g1
  refine ⟨v.sl, ρ2, ?_, rfV_ok, g2⟩
  exact stBin e1 e2 (rf_cont (RF.ok_kp o1 k) g2) (rf_cont o2 g2) h
theorem ej_b0 {op : PV → PV → Option Vl} {w : PV} (d1 : EJ A f (.fz p) A1) (d2 : EJ A1 g (.fz q) A2) (h : op p q = some (.fz w)) : EJ A (eBin op f g) (.fz w) A2 := ej_bin d1 d2 trivial h
theorem ej_neg {a : Int} (d : EJ A f (.fz (.int a)) A1) : EJ A (eNeg f) (.fz (.int (-a))) A1 := fun ρ hρ => by
  obtain ⟨s, ρ1, e1, o1, g1⟩ := d ρ hρ
  rw [show s = .fz (.int a) from o1] at e1
  exact ⟨_, ρ1, stNeg e1, rfl, g1⟩
theorem ej_not {a : Bool} (d : EJ A f (.fz (.bl a)) A1) : EJ A (eNotF f) (.fz (.bl (!a))) A1 := fun ρ hρ => by
  obtain ⟨s, ρ1, e1, o1, g1⟩ := d ρ hρ
  rw [show s = .fz (.bl a) from o1] at e1
  exact ⟨_, ρ1, stNotE e1, rfl, g1⟩
theorem ej_n1 {op : List PV → Option Vl} {v : Vl} (d : EJ A f r A1) (h : op [r.pv] = some v) : EJ A (eNary op (aCons f aNil)) (rfV v) A1 := fun ρ hρ => by
  obtain ⟨s, ρ1, e1, o1, g1⟩ := d ρ hρ
  refine ⟨v.sl, ρ1, stNary (stOne e1) ?_ h, rfV_ok, g1⟩
  unfold conts conts
  rw [rf_cont o1 g1]; rfl
theorem ej_n2 {op : List PV → Option Vl} {v : Vl} (d1 : EJ A f r1 A1) (d2 : EJ A1 g r2 A2) (k : r1.kp A1 A2) (h : op [r1.pv, r2.pv] = some v) : EJ A (eNary op (aCons f (aCons g aNil))) (rfV v) A2 := fun ρ hρ => by
  obtain ⟨s, ρ1, e1, o1, g1⟩ := d1 ρ hρ
  obtain ⟨t, ρ2, e2, o2, g2⟩ := d2 ρ1 g1
  refine ⟨v.sl, ρ2, stNary (stCons e1 (stOne e2)) ?_ h, rfV_ok, g2⟩
  unfold conts conts conts
  rw [rf_cont (RF.ok_kp o1 k) g2, rf_cont o2 g2]; rfl
theorem ej_n3 {op : List PV → Option Vl} {v : Vl} (d1 : EJ A f r1 A1) (d2 : EJ A1 g r2 A2) (d3 : EJ A2 h' r3 A3) (k : r1.kp A1 A3) (k2 : r2.kp A2 A3) (h : op [r1.pv, r2.pv, r3.pv] = some v) : EJ A (eNary op (aCons f (aCons g (aCons h' aNil)))) (rfV v) A3 := fun ρ hρ => by
  obtain ⟨s, ρ1, e1, o1, g1⟩ := d1 ρ hρ
  obtain ⟨t, ρ2, e2, o2, g2⟩ := d2 ρ1 g1
  obtain ⟨u, ρ3, e3, o3, g3⟩ := d3 ρ2 g2
  refine ⟨v.sl, ρ3, stNary (stCons e1 (stCons e2 (stOne e3))) ?_ h, rfV_ok, g3⟩
  unfold conts conts conts conts
  rw [rf_cont (RF.ok_kp o1 k) g3, rf_cont (RF.ok_kp o2 k2) g3, rf_cont o3 g3]; rfl
/-! values that are laid into tuples and lists -/
def VJ (A : List AS) (fs : PFs) (ps : List PV) (B : List AS) : Prop := ∀ ρ, Ag A ρ → ∃ ss ρ', fs ρ = some (ss, ρ') ∧ valsOf ss = some ps ∧ Ag B ρ'
theorem vj_nil : VJ A aNil [] A := fun ρ h => ⟨_, _, rfl, rfl, h⟩
theorem vj_cons {ps : List PV} (d : EJ A f r A1) (n : r.np) (ds : VJ A1 fs ps A2) : VJ A (aCons f fs) (r.pv :: ps) A2 := fun ρ hρ => by
  obtain ⟨s, ρ1, e1, o1, g1⟩ := d ρ hρ
  obtain ⟨ss, ρ2, e2, o2, g2⟩ := ds ρ1 g1
  refine ⟨s :: ss, ρ2, stCons e1 e2, ?_, g2⟩
  unfold valsOf
  rw [rf_val o1 n, Option.bind_some, o2]; rfl
theorem vj_consE {ps : List PV} (d : EJ A f r A1) (n : r.np) (e : r.pv = p) (ds : VJ A1 fs ps A2) : VJ A (aCons f fs) (p :: ps) A2 := e ▸ vj_cons d n ds
theorem ej_tup {ps : List PV} (d : VJ A fs ps A1) (hl : Nat.ble ps.length lineN = true) : EJ A (eTup fs) (.fz (.tup ps)) A1 := fun ρ hρ => by
  obtain ⟨ss, ρ1, e1, o1, g1⟩ := d ρ hρ
  exact ⟨_, ρ1, stTup e1 o1 (Nat.le_of_ble_eq_true hl), rfl, g1⟩
theorem ej_lst {ps : List PV} (d : VJ A fs ps A1) (hl : Nat.ble ps.length lineN = true) : EJ A (eLst fs) (.own ps) A1 := fun ρ hρ => by
  obtain ⟨ss, ρ1, e1, o1, g1⟩ := d ρ hρ
  exact ⟨_, ρ1, stLst e1 o1 (Nat.le_of_ble_eq_true hl), rfl, g1⟩
/-! tests -/
variable {t u : PT'} {a b c : Bool}
theorem tj_wk (d : TJ A t a A1) (w : Wk A1 B) : TJ A t a B := fun ρ h => by
  obtain ⟨ρ', h1, h3⟩ := d ρ h
  exact ⟨ρ', h1, h3.wk w⟩
theorem tj_of (d : EJ A f (.fz (.bl a)) A1) : TJ A (tOf f) a A1 := fun ρ hρ => by
  obtain ⟨s, ρ1, e1, o1, g1⟩ := d ρ hρ
  rw [show s = .fz (.bl a) from o1] at e1
  exact ⟨ρ1, stOf e1, g1⟩
theorem tj_not (d : TJ A t a A1) : TJ A (tNotF t) (!a) A1 := fun ρ hρ => by
  obtain ⟨ρ1, e1, g1⟩ := d ρ hρ
  exact ⟨ρ1, stNot e1, g1⟩
theorem tj_true : TJ A tTrue true A := fun ρ h => ⟨_, rfl, h⟩
theorem tj_and (d : TJ A t a A1) (d2 : TJ A1 u b A2) (w : Wk A1 B) (w2 : Wk A2 B) : TJ A (tAndF t u) (a && b) B := fun ρ hρ => by
  obtain ⟨ρ1, e1, g1⟩ := d ρ hρ
  cases a with
  | false => exact ⟨ρ1, stTAndN e1 rfl, g1.wk w⟩
  | true =>
    obtain ⟨ρ2, e2, g2⟩ := d2 ρ1 g1
    exact ⟨ρ2, stTAndT e1 rfl e2, g2.wk w2⟩
theorem tj_or (d : TJ A t a A1) (d2 : TJ A1 u b A2) (w : Wk A1 B) (w2 : Wk A2 B) : TJ A (tOrF t u) (a || b) B := fun ρ hρ => by
  obtain ⟨ρ1, e1, g1⟩ := d ρ hρ
  cases a with
  | true => exact ⟨ρ1, stTOrT e1 rfl, g1.wk w⟩
  | false =>
    obtain ⟨ρ2, e2, g2⟩ := d2 ρ1 g1
    exact ⟨ρ2, stTOrN e1 rfl e2, g2.wk w2⟩
theorem tjo_some {v : α} {ct : α → Bool} {BB : α → List AS} (d : TJ A t (ct v) (BB v)) : TJO A t (some v) ct BB := fun w h => by cases h; exact d
theorem tjo_bind {m : Option β} {k : β → Option α} {ct : α → Bool} {BB : α → List AS} (d : ∀ v, m = some v → TJO A t (k v) ct BB) : TJO A t (m.bind k) ct BB := fun w h => by
  rw [Option.bind_eq_some_iff] at h
  obtain ⟨v, h1, h2⟩ := h
  exact d v h1 w h2
theorem tjo_and {m : Option α} {w0 : α} {ct : α → Bool} {BB : α → List AS} (d : TJ A t a A1) (d2 : TJO A1 u m ct BB) (hw : ct w0 = false) (w : Wk A1 (BB w0)) : TJO A (tAndF t u) (if a = true then m else some w0) ct BB := fun v hv ρ hρ => by
  obtain ⟨ρ1, e1, g1⟩ := d ρ hρ
  cases a with
  | false =>
    cases hv
    rw [hw]
    exact ⟨ρ1, stTAndN e1 rfl, g1.wk w⟩
  | true =>
    rw [if_pos rfl] at hv
    obtain ⟨ρ2, e2, g2⟩ := d2 v hv ρ1 g1
    exact ⟨ρ2, stTAndT e1 rfl e2, g2⟩
theorem tjo_or {m : Option α} {w0 : α} {ct : α → Bool} {BB : α → List AS} (d : TJ A t a A1) (d2 : TJO A1 u m ct BB) (hw : ct w0 = true) (w : Wk A1 (BB w0)) : TJO A (tOrF t u) (if a = true then some w0 else m) ct BB := fun v hv ρ hρ => by
  obtain ⟨ρ1, e1, g1⟩ := d ρ hρ
  cases a with
  | true =>
    cases hv
    rw [hw]
    exact ⟨ρ1, stTOrT e1 rfl, g1.wk w⟩
  | false =>
    rw [if_neg (by simp)] at hv
    obtain ⟨ρ2, e2, g2⟩ := d2 v hv ρ1 g1
    exact ⟨ρ2, stTOrN e1 rfl e2, g2⟩
/-! conditional values -/
theorem ejo_some {v : α} {rr : α → RF} {BB : α → List AS} (d : EJ A f (rr v) (BB v)) : EJO A f (some v) rr BB := fun w h => by cases h; exact d
theorem ejo_bind {m : Option β} {k : β → Option α} {rr : α → RF} {BB : α → List AS} (d : ∀ v, m = some v → EJO A f (k v) rr BB) : EJO A f (m.bind k) rr BB := fun w h => by
  rw [Option.bind_eq_some_iff] at h
  obtain ⟨v, h1, h2⟩ := h
  exact d v h1 w h2
theorem ejo_if {m n : Option α} {rr : α → RF} {BB : α → List AS} (d : TJ A t a A1) (d1 : EJO A1 f m rr BB) (d2 : EJO A1 g n rr BB) : EJO A (eIf t f g) (if a = true then m else n) rr BB := fun v hv ρ hρ => by
  obtain ⟨ρ1, e1, g1⟩ := d ρ hρ
  cases a with
  | true =>
    rw [if_pos rfl] at hv
    obtain ⟨s, ρ2, e2, g2⟩ := d1 v hv ρ1 g1
    exact ⟨s, ρ2, stIfET e1 rfl e2, g2⟩
  | false =>
    rw [if_neg (by simp)] at hv
    obtain ⟨s, ρ2, e2, g2⟩ := d2 v hv ρ1 g1
    exact ⟨s, ρ2, stIfEN e1 rfl e2, g2⟩
theorem ej_if {rr : α → RF} {x y : α} (d : TJ A t a A1) (d1 : EJ A1 f (rr x) B) (d2 : EJ A1 g (rr y) B) : EJ A (eIf t f g) (rr (if a = true then x else y)) B := by
  have := ejo_if (m := some x) (n := some y) (rr := rr) (BB := fun _ => B) d (ejo_some d1) (ejo_some d2)
  refine this _ ?_
  cases a <;> rfl
theorem ej_and (d : EJ A f (.fz (.bl a)) A1) (d2 : EJ A1 g (.fz (.bl b)) A2) (w : Wk A1 B) (w2 : Wk A2 B) : EJ A (eAndF f g) (.fz (.bl (a && b))) B := fun ρ hρ => by
  obtain ⟨s, ρ1, e1, o1, g1⟩ := d ρ hρ
  rw [show s = .fz (.bl a) from o1] at e1
  cases a with
  | false => exact ⟨_, ρ1, stAndN e1 rfl, rfl, g1.wk w⟩
  | true =>
    obtain ⟨s, ρ2, e2, o2, g2⟩ := d2 ρ1 g1
    exact ⟨s, ρ2, stAndT e1 rfl e2, o2, g2.wk w2⟩
theorem ej_or (d : EJ A f (.fz (.bl a)) A1) (d2 : EJ A1 g (.fz (.bl b)) A2) (w : Wk A1 B) (w2 : Wk A2 B) : EJ A (eOrF f g) (.fz (.bl (a || b))) B := fun ρ hρ => by
  obtain ⟨s, ρ1, e1, o1, g1⟩ := d ρ hρ
  rw [show s = .fz (.bl a) from o1] at e1
  cases a with
  | true => exact ⟨_, ρ1, stOrT e1 rfl, rfl, g1.wk w⟩
  | false =>
    obtain ⟨s, ρ2, e2, o2, g2⟩ := d2 ρ1 g1
    exact ⟨s, ρ2, stOrN e1 rfl e2, o2, g2.wk w2⟩
theorem ejo_and {m : Option α} {w0 : α} {rr : α → RF} {BB : α → List AS} (d : EJ A f (.fz (.bl a)) A1) (d2 : EJO A1 g m rr BB) (hw : rr w0 = .fz (.bl false)) (w : Wk A1 (BB w0)) : EJO A (eAndF f g) (if a = true then m else some w0) rr BB := fun v hv ρ hρ => by
  obtain ⟨s, ρ1, e1, o1, g1⟩ := d ρ hρ
  rw [show s = .fz (.bl a) from o1] at e1
  cases a with
  | false =>
    cases hv
    rw [hw]
    exact ⟨_, ρ1, stAndN e1 rfl, rfl, g1.wk w⟩
  | true =>
    rw [if_pos rfl] at hv
    obtain ⟨s, ρ2, e2, g2⟩ := d2 v hv ρ1 g1
    exact ⟨s, ρ2, stAndT e1 rfl e2, g2⟩
theorem ejo_or {m : Option α} {w0 : α} {rr : α → RF} {BB : α → List AS} (d : EJ A f (.fz (.bl a)) A1) (d2 : EJO A1 g m rr BB) (hw : rr w0 = .fz (.bl true)) (w : Wk A1 (BB w0)) : EJO A (eOrF f g) (if a = true then some w0 else m) rr BB := fun v hv ρ hρ => by
  obtain ⟨s, ρ1, e1, o1, g1⟩ := d ρ hρ
  rw [show s = .fz (.bl a) from o1] at e1
  cases a with
  | true =>
    cases hv
    rw [hw]
    exact ⟨_, ρ1, stOrT e1 rfl, rfl, g1.wk w⟩
  | false =>
    rw [if_neg (by simp)] at hv
    obtain ⟨s, ρ2, e2, g2⟩ := d2 v hv ρ1 g1
    exact ⟨s, ρ2, stOrN e1 rfl e2, g2⟩
theorem ej_chain {op op' : PV → PV → Option Vl} {x : Bool} {y : Bool} (d1 : EJ A f r1 A1) (d2 : EJ A1 g r2 A2) (k : r1.kp A1 A2) (h : op r1.pv r2.pv = some (.fz (.bl x))) (d3 : EJ A2 h' r3 A3) (k2 : r2.kp A2 A3) (h2 : op' r2.pv r3.pv = some (.fz (.bl y))) (w : Wk A2 A3) : EJ A (eChain op op' f g h') (.fz (.bl (x && y))) A3 := fun ρ hρ => by
  obtain ⟨s, ρ1, e1, o1, g1⟩ := d1 ρ hρ
  obtain ⟨t, ρ2, e2, o2, g2⟩ := d2 ρ1 g1
  cases x with
  | false => exact ⟨_, ρ2, stChainN e1 e2 (rf_cont (RF.ok_kp o1 k) g2) (rf_cont o2 g2) h rfl, rfl, g2.wk w⟩
  | true =>
    obtain ⟨u, ρ3, e3, o3, g3⟩ := d3 ρ2 g2
    exact ⟨_, ρ3, stChainT e1 e2 (rf_cont (RF.ok_kp o1 k) g2) (rf_cont o2 g2) h rfl e3 (rf_cont (RF.ok_kp o2 k2) g3) (rf_cont o3 g3) h2, rfl, g3⟩
theorem ejx_if {m n : Option α} {rr : α → RF} {BB : α → List AS} {v : α} (d : TJ A t a A1) (d1 : EJO A1 f m rr BB) (d2 : EJO A1 g n rr BB) (hv : (if a = true then m else n) = some v) : EJ A (eIf t f g) (rr v) (BB v) := ejo_if d d1 d2 v hv
theorem ejx_and {m : Option α} {w0 : α} {rr : α → RF} {BB : α → List AS} {v : α} (d : EJ A f (.fz (.bl a)) A1) (d2 : EJO A1 g m rr BB) (hw : rr w0 = .fz (.bl false)) (w : Wk A1 (BB w0)) (hv : (if a = true then m else some w0) = some v) : EJ A (eAndF f g) (rr v) (BB v) := ejo_and d d2 hw w v hv
theorem ejx_or {m : Option α} {w0 : α} {rr : α → RF} {BB : α → List AS} {v : α} (d : EJ A f (.fz (.bl a)) A1) (d2 : EJO A1 g m rr BB) (hw : rr w0 = .fz (.bl true)) (w : Wk A1 (BB w0)) (hv : (if a = true then some w0 else m) = some v) : EJ A (eOrF f g) (rr v) (BB v) := ejo_or d d2 hw w v hv
theorem tjx_and {m : Option α} {w0 : α} {ct : α → Bool} {BB : α → List AS} {v : α} (d : TJ A t a A1) (d2 : TJO A1 u m ct BB) (hw : ct w0 = false) (w : Wk A1 (BB w0)) (hv : (if a = true then m else some w0) = some v) : TJ A (tAndF t u) (ct v) (BB v) := tjo_and d d2 hw w v hv
theorem tjx_or {m : Option α} {w0 : α} {ct : α → Bool} {BB : α → List AS} {v : α} (d : TJ A t a A1) (d2 : TJO A1 u m ct BB) (hw : ct w0 = true) (w : Wk A1 (BB w0)) (hv : (if a = true then some w0 else m) = some v) : TJ A (tOrF t u) (ct v) (BB v) := tjo_or d d2 hw w v hv
/-! slices -/
def OJ (A : List AS) (f : PFo) (o : Option Int) (B : List AS) : Prop := ∀ ρ, Ag A ρ → ∃ ρ', f ρ = some (o, ρ') ∧ Ag B ρ'
theorem oj_none : OJ A oNone none A := fun ρ h => ⟨_, rfl, h⟩
theorem oj_some {x : Int} (d : EJ A f (.fz (.int x)) A1) : OJ A (oSome f) (some x) A1 := fun ρ hρ => by
  obtain ⟨s, ρ1, e1, o1, g1⟩ := d ρ hρ
  rw [show s = .fz (.int x) from o1] at e1
  exact ⟨ρ1, stoS e1, g1⟩
theorem ej_sl {lo hi : PFo} {l h : Option Int} {v : Vl} (d1 : EJ A f r A1) (d2 : OJ A1 lo l A2) (d3 : OJ A2 hi h A3) (k : r.kp A1 A3) (ho : opSl r.pv l h = some v) : EJ A (eSl f lo hi) (rfV v) A3 := fun ρ hρ => by
  obtain ⟨s, ρ1, e1, o1, g1⟩ := d1 ρ hρ
  obtain ⟨ρ2, e2, g2⟩ := d2 ρ1 g1
  obtain ⟨ρ3, e3, g3⟩ := d3 ρ2 g2
  exact ⟨_, ρ3, stSl e1 e2 e3 (rf_cont (RF.ok_kp o1 k) g3) ho, rfV_ok, g3⟩
theorem ej_rev (d : EJ A f r A1) (h : r.pv = .lst xs) : EJ A (eRev f) (.own xs.reverse) A1 := fun ρ hρ => by
  obtain ⟨s, ρ1, e1, o1, g1⟩ := d ρ hρ
  exact ⟨_, ρ1, stRev e1 (by rw [rf_cont o1 g1, h]), rfl, g1⟩
theorem ej_fld {t : Nat → Option Nat} {c j : Nat} (d : EJ A f (.fz (.ins c xs)) A1) (h : t c = some j) (h2 : xs[j]? = some p) : EJ A (eFld t f) (.fz p) A1 := fun ρ hρ => by
  obtain ⟨s, ρ1, e1, o1, g1⟩ := d ρ hρ
  rw [show s = .fz (.ins c xs) from o1] at e1
  exact ⟨_, ρ1, stFld e1 h h2, rfl, g1⟩
theorem ej_app (d : EJ A f r A1) (n : r.np) (h0 : A[i]? = some (.own ys)) (h : A1[i]? = some (.own xs)) (hl : xs.length < lineN) : EJ A (eAppend i f) (.fz .non) (A1.set i (.own (xs ++ [r.pv]))) := fun ρ hρ => by
  obtain ⟨t, e0, o0⟩ := hρ.get h0
  rw [show t = .own ys from o0] at e0
  obtain ⟨s, ρ1, e1, o1, g1⟩ := d ρ hρ
  obtain ⟨t, e2, o2⟩ := g1.get h
  rw [show t = .own xs from o2] at e2
  exact ⟨_, _, stAppend e0 e1 (rf_val o1 n) e2 hl, rfl, g1.set rfl⟩
theorem ej_ext {zs : List PV} (d : EJ A f r A1) (hr : r.pv = .lst zs) (h0 : A[i]? = some (.own ys)) (h : A1[i]? = some (.own xs)) (hl : xs.length + zs.length ≤ lineN) : EJ A (eExtend i f) (.fz .non) (A1.set i (.own (xs ++ zs))) := fun ρ hρ => by
  obtain ⟨t, e0, o0⟩ := hρ.get h0
  rw [show t = .own ys from o0] at e0
  obtain ⟨s, ρ1, e1, o1, g1⟩ := d ρ hρ
  obtain ⟨t, e2, o2⟩ := g1.get h
  rw [show t = .own xs from o2] at e2
  refine ⟨_, _, ?_, rfl, g1.set rfl⟩
  unfold eExtend
  rw [e0]
  show (f ρ).bind _ = _
  rw [e1, Option.bind_some, rf_cont o1 g1, hr, Option.bind_some]
  show (match PV.lst zs, ρ1[i]? with | .lst ys, some (.own xs) => _ | _, _ => _) = _
  rw [e2]
  exact if_pos hl
theorem ej_pop (h : A[i]? = some (.own xs)) (hp : xs[xs.length - 1]? = some p) : EJ A (ePop i) (.fz p) (A.set i (.own xs.dropLast)) := fun ρ hρ => by
  obtain ⟨t, e0, o0⟩ := hρ.get h
  rw [show t = .own xs from o0] at e0
  refine ⟨.fz p, _, ?_, rfl, hρ.set rfl⟩
  unfold ePop
  rw [e0]
  show (xs[xs.length - 1]?).map _ = _
  rw [hp]; rfl
theorem ej_idx {j : Nat} (d1 : EJ A f r1 A1) (d2 : EJ A1 g r2 A2) (k : r1.kp A1 A2) (e : r1.pv = .lst xs) (h : (if datN 60 (.lst xs) = true ∧ datN 60 r2.pv = true then idxP r2.pv xs else none) = some j) : EJ A (eIndex f g) (.fz (.int j)) A2 := fun ρ hρ => by
  obtain ⟨s, ρ1, e1, o1, g1⟩ := d1 ρ hρ
  obtain ⟨t, ρ2, e2, o2, g2⟩ := d2 ρ1 g1
  split at h
  · rename_i c
    exact ⟨_, ρ2, stIndex e1 (by rw [rf_cont o1 g1, e]) e2 (by rw [rf_cont (RF.ok_kp o1 k) g2, e]) (rf_cont o2 g2) c.1 c.2 h, rfl, g2⟩
  · cases h
end
end PL
set_option Elab.async false
set_option linter.all false
set_option maxRecDepth 100000
set_option maxHeartbeats 4000000
/-! PL7: statements, loops, comprehensions, calls: rules of the typed layer. -/
namespace PL
open PySem
def letQ {α β : Type} (x : α) (k : α → β) : β := k x
@[simp] theorem letQ_eq {α β : Type} (x : α) (k : α → β) : letQ x k = k x := rfl
/-! ### targets, what is walked -/
def GJ (A : List AS) (g : PGF) (p : PV) (B : List AS) : Prop := ∀ ρ, Ag A ρ → ∃ ρ', g p ρ = some ρ' ∧ Ag B ρ'
def GsJ (A : List AS) (g : PGFs) (p : List PV) (B : List AS) : Prop := ∀ ρ, Ag A ρ → ∃ ρ', g p ρ = some ρ' ∧ Ag B ρ'
def IJ (A : List AS) (w : PIF) (items : List PV) (B : List AS) : Prop := ∀ ρ, Ag A ρ → ∃ rs ρ', w ρ = some (items, rs, ρ') ∧ (∀ τ, putB rs (rs.map tmpOf) τ = τ) ∧ Ag B ρ'
def seqR : RF → Option (List PV)
  | .fz (.lst xs) => some xs
  | .fz (.tup xs) => some xs
  | .fz (.scr xs) => some xs
  | .own xs => some xs
  | .ls xs => some xs
  | _ => none
section
variable {A A1 A2 A3 B : List AS} {p : PV} {ps items xs : List PV} {g : PGF} {gs : PGFs} {f f2 f3 : PF} {fs : PFs} {r r2 r3 : RF} {i : Nat}
theorem gj_nm : GJ A (gNm i) p (A.set i (.fz p)) := fun ρ h => ⟨_, rfl, h.set rfl⟩
theorem gsj_nil : GsJ A gsNil [] A := fun ρ h => ⟨_, rfl, h⟩
theorem gsj_cons (d : GJ A g p A1) (ds : GsJ A1 gs ps B) : GsJ A (gsCons g gs) (p :: ps) B := fun ρ h => by
  obtain ⟨ρ1, e1, g1⟩ := d ρ h
  obtain ⟨ρ2, e2, g2⟩ := ds ρ1 g1
  refine ⟨ρ2, ?_, g2⟩
  show (g p ρ).bind _ = _
  rw [e1]; exact e2
theorem gj_tp (d : GsJ A gs ps B) : GJ A (gTp gs) (.tup ps) B := d
theorem gj_fld {c n : Nat} (h : A[i]? = some (.obj c xs)) (hn : xs.length = n) : GJ A (gFld i c n) p (A.set i (.obj c (xs ++ [p]))) := fun ρ hρ => by
  obtain ⟨t, e, o⟩ := hρ.get h
  rw [show t = .obj c xs from o] at e
  refine ⟨_, ?_, hρ.set rfl⟩
  unfold gFld
  rw [e]
  exact if_pos ⟨rfl, hn⟩
theorem put_no {s : Sl} {ss : List Sl} (h : ∀ i t, s ≠ .br i t) (k : ∀ τ, putB ss (ss.map tmpOf) τ = τ) : ∀ τ, putB (s :: ss) ((s :: ss).map tmpOf) τ = τ := fun τ => by
  cases s with
  | br i t => exact absurd rfl (h i t)
  | _ => exact k τ
theorem seqR_seq {s : Sl} (h : r.ok A s) (e : seqR r = some items) : seqOf (tmpOf s) = some items ∧ ∀ i t, s ≠ .br i t := by
  cases r with
  | fz p =>
    rw [show s = .fz p from h]
    cases p with
    | lst ys => cases e; exact ⟨rfl, fun _ _ z => by cases z⟩
    | tup ys => cases e; exact ⟨rfl, fun _ _ z => by cases z⟩
    | scr ys => cases e; exact ⟨rfl, fun _ _ z => by cases z⟩
    | _ => cases e
  | own ys =>
    rw [show s = .own ys from h]
    cases e; exact ⟨rfl, fun _ _ z => by cases z⟩
  | ls ys =>
    cases e
    rcases h with h | h <;> (rw [h]; exact ⟨rfl, fun _ _ z => by cases z⟩)
  | pk i ys => cases e
theorem ij_seq (d : EJ A f r A1) (e : seqR r = some items) : IJ A (iSeq f) items A1 := fun ρ h => by
  obtain ⟨s, ρ1, e1, o1, g1⟩ := d ρ h
  obtain ⟨q1, q2⟩ := seqR_seq o1 e
  exact ⟨[s], ρ1, stISeq e1 q1, put_no q2 fun _ => rfl, g1⟩
def rng1 (n : Int) : Option (List Int) := if -(lineN : Int) ≤ n ∧ n ≤ lineN then some ((List.range n.toNat).map fun (k : Nat) => (k : Int)) else none
def rng2 (i j : Int) : Option (List Int) := if -(2 ^ 62) ≤ i ∧ j < 2 ^ 62 ∧ i < 2 ^ 62 ∧ -(2 ^ 62) ≤ j ∧ j - i ≤ lineN then some ((List.range (j - i).toNat).map fun (k : Nat) => i + (k : Int)) else none
theorem rangeP_q {i : Int} {n : Nat} : rangeP i n = ((List.range n).map fun (k : Nat) => i + (k : Int)).map PV.int := by
  unfold rangeP
  rw [List.map_map]; rfl
theorem ij_rng1 {n : Int} {ns : List Int} (d : EJ A f (.fz (.int n)) A1) (h : rng1 n = some ns) : IJ A (iRange1 f) (ns.map PV.int) A1 := fun ρ hρ => by
  obtain ⟨s, ρ1, e1, o1, g1⟩ := d ρ hρ
  rw [show s = .fz (.int n) from o1] at e1
  unfold rng1 at h
  split at h
  · rename_i c
    cases h
    refine ⟨[], ρ1, ?_, fun _ => rfl, g1⟩
    unfold iRange1
    rw [e1, Option.bind_some]
    show (if _ then _ else _) = _
    rw [if_pos c, rangeP_q]
    simp
  · cases h
theorem ij_rng2 {n m : Int} {ns : List Int} (d : EJ A f (.fz (.int n)) A1) (d2 : EJ A1 f2 (.fz (.int m)) A2) (h : rng2 n m = some ns) : IJ A (iRange2 f f2) (ns.map PV.int) A2 := fun ρ hρ => by
  obtain ⟨s, ρ1, e1, o1, g1⟩ := d ρ hρ
  rw [show s = .fz (.int n) from o1] at e1
  obtain ⟨s2, ρ2, e2, o2, g2⟩ := d2 ρ1 g1
  rw [show s2 = .fz (.int m) from o2] at e2
  unfold rng2 at h
  split at h
  · rename_i c
    cases h
    refine ⟨[], ρ2, ?_, fun _ => rfl, g2⟩
    unfold iRange2
    rw [e1, Option.bind_some]
    show (f2 ρ1).bind _ = _
    rw [e2, Option.bind_some]
    show (if _ then _ else _) = _
    rw [if_pos c, rangeP_q]
  · cases h
theorem zipP_q {α β : Type} {e : α → PV} {e2 : β → PV} : ∀ {xs : List α} {ys : List β}, zipP (xs.map e) (ys.map e2) = (xs.zip ys).map (eP2 e e2)
  | [], ys => by cases ys <;> rfl
  | _ :: _, [] => rfl
  | x :: xs, y :: ys => by
    show PV.tup [e x, e2 y] :: zipP (xs.map e) (ys.map e2) = _
    rw [zipP_q]; rfl
theorem zip3P_q {α β γ : Type} {e : α → PV} {e2 : β → PV} {e3 : γ → PV} : ∀ {xs : List α} {ys : List β} {zs : List γ}, zip3P (xs.map e) (ys.map e2) (zs.map e3) = (xs.zip (ys.zip zs)).map (eP3 e e2 e3)
  | [], ys, zs => by cases ys <;> cases zs <;> rfl
  | _ :: _, [], zs => by cases zs <;> rfl
  | _ :: _, _ :: _, [] => rfl
  | x :: xs, y :: ys, z :: zs => by
    show PV.tup [e x, e2 y, e3 z] :: zip3P (xs.map e) (ys.map e2) (zs.map e3) = _
    rw [zip3P_q]; rfl
def enumQ {α : Type} (i : Nat) : List α → List (Int × α)
  | [] => []
  | x :: xs => ((i : Int), x) :: enumQ (i + 1) xs
theorem enumP_q {α : Type} {e : α → PV} : ∀ {i : Nat} {xs : List α}, enumP i (xs.map e) = (enumQ i xs).map (eP2 PV.int e)
  | _, [] => rfl
  | i, x :: xs => by
    show PV.tup [.int (i : Nat), e x] :: enumP (i + 1) (xs.map e) = _
    rw [enumP_q]; rfl
theorem ij_zip2 {α β : Type} {xs : List α} {ys : List β} {e : α → PV} {e2 : β → PV} (d : EJ A f r A1) (d2 : EJ A1 f2 r2 A2) (h : seqR r = some (xs.map e)) (h2 : seqR r2 = some (ys.map e2)) : IJ A (iZip2 (aCons f (aCons f2 aNil))) ((xs.zip ys).map (eP2 e e2)) A2 := fun ρ hρ => by
  obtain ⟨s, ρ1, e1, o1, g1⟩ := d ρ hρ
  obtain ⟨t, ρ2, e3, o2, g2⟩ := d2 ρ1 g1
  obtain ⟨q1, n1⟩ := seqR_seq o1 h
  obtain ⟨q2, n2⟩ := seqR_seq o2 h2
  refine ⟨[s, t], ρ2, ?_, put_no n1 (put_no n2 fun _ => rfl), g2⟩
  unfold iZip2
  rw [stCons e1 (stOne e3), Option.bind_some]
  show (seqOf (tmpOf s)).bind _ = _
  rw [q1, Option.bind_some, q2, Option.map_some, zipP_q]
theorem ij_zip3 {α β γ : Type} {xs : List α} {ys : List β} {zs : List γ} {e : α → PV} {e2 : β → PV} {e3 : γ → PV} (d : EJ A f r A1) (d2 : EJ A1 f2 r2 A2) (d3 : EJ A2 f3 r3 A3) (h : seqR r = some (xs.map e)) (h2 : seqR r2 = some (ys.map e2)) (h3 : seqR r3 = some (zs.map e3)) : IJ A (iZip3 (aCons f (aCons f2 (aCons f3 aNil)))) ((xs.zip (ys.zip zs)).map (eP3 e e2 e3)) A3 := fun ρ hρ => by
  obtain ⟨s, ρ1, e1, o1, g1⟩ := d ρ hρ
  obtain ⟨t, ρ2, e4, o2, g2⟩ := d2 ρ1 g1
  obtain ⟨u, ρ3, e5, o3, g3⟩ := d3 ρ2 g2
  obtain ⟨q1, n1⟩ := seqR_seq o1 h
  obtain ⟨q2, n2⟩ := seqR_seq o2 h2
  obtain ⟨q3, n3⟩ := seqR_seq o3 h3
  refine ⟨[s, t, u], ρ3, ?_, put_no n1 (put_no n2 (put_no n3 fun _ => rfl)), g3⟩
  unfold iZip3
  rw [stCons e1 (stCons e4 (stOne e5)), Option.bind_some]
  show (seqOf (tmpOf s)).bind _ = _
  rw [q1, Option.bind_some, q2, Option.bind_some, q3, Option.map_some, zip3P_q]
theorem ij_enum {α : Type} {xs : List α} {e : α → PV} (d : EJ A f r A1) (h : seqR r = some (xs.map e)) : IJ A (iEnum (aCons f aNil)) ((enumQ 0 xs).map (eP2 PV.int e)) A1 := fun ρ hρ => by
  obtain ⟨s, ρ1, e1, o1, g1⟩ := d ρ hρ
  obtain ⟨q1, n1⟩ := seqR_seq o1 h
  refine ⟨[s], ρ1, ?_, put_no n1 fun _ => rfl, g1⟩
  unfold iEnum
  rw [stOne e1, Option.bind_some]
  show (seqOf (tmpOf s)).map _ = _
  rw [q1, Option.map_some, enumP_q]
theorem ij_eq {ys : List PV} {w : PIF} (d : IJ A w items A1) (e : items = ys) : IJ A w ys A1 := e ▸ d
theorem ej_lrg {w : PIF} (d : IJ A w items A1) (hn : ∀ ρ x, w ρ = some x → x.2.1 = []) : EJ A (eListRg w) (.own items) A1 := fun ρ hρ => by
  obtain ⟨rs, ρ1, e1, _, g1⟩ := d ρ hρ
  have := hn ρ _ e1
  dsimp only at this
  subst this
  exact ⟨_, ρ1, stListRg e1, rfl, g1⟩
theorem rg1_nil {ρ : List Sl} {x : List PV × List Sl × List Sl} (h : iRange1 f ρ = some x) : x.2.1 = [] := by
  obtain ⟨a, b, c⟩ := x
  obtain ⟨j, h1, h2, h3, h4⟩ := rg1_some h
  exact h4
theorem rg2_nil {ρ : List Sl} {x : List PV × List Sl × List Sl} (h : iRange2 f f2 ρ = some x) : x.2.1 = [] := by
  obtain ⟨a, b, c⟩ := x
  obtain ⟨i, j, ρ1, h1, h2, h3, h4, h5⟩ := rg2_some h
  exact h5
theorem ej_lzip {α β : Type} {xs : List α} {ys : List β} {e : α → PV} {e2 : β → PV} (d : EJ A f r A1) (d2 : EJ A1 f2 r2 A2) (h : seqR r = some (xs.map e)) (h2 : seqR r2 = some (ys.map e2)) : EJ A (eListZ (aCons f (aCons f2 aNil))) (.own ((xs.zip ys).map (eP2 e e2))) A2 := fun ρ hρ => by
  obtain ⟨s, ρ1, e1, o1, g1⟩ := d ρ hρ
  obtain ⟨t, ρ2, e3, o2, g2⟩ := d2 ρ1 g1
  obtain ⟨q1, n1⟩ := seqR_seq o1 h
  obtain ⟨q2, n2⟩ := seqR_seq o2 h2
  refine ⟨_, ρ2, ?_, rfl, g2⟩
  unfold eListZ
  rw [stCons e1 (stOne e3), Option.bind_some]
  show (seqOf (tmpOf s)).bind _ = _
  rw [q1, Option.bind_some, q2, Option.map_some, zipP_q]
end
/-! ### statements -/
def SJ {O : Type} (A : List AS) (f : PSF) (m : Option O) (E : O → Fl → List Sl → Prop) : Prop := ∀ o, m = some o → ∀ ρ, Ag A ρ → ∃ fl ρ', f ρ = some (fl, ρ') ∧ E o fl ρ'
def eRet {R : Type} (vR : R → RF) (AR : R → List AS) : R → Fl → List Sl → Prop := fun r fl ρ' => ∃ w : Vl, fl = .rt w ∧ (vR r).ok [] w.sl ∧ Ag (AR r) ρ'
def eFn {R : Type} (vR : R → RF) (AR : R → List AS) : R → Fl → List Sl → Prop := fun r fl ρ' => eRet vR AR r fl ρ' ∨ (fl = .nx ∧ vR r = .fz .non ∧ Ag (AR r) ρ')
def eNx {G : Type} (AN : G → List AS) : G → Fl → List Sl → Prop := fun g fl ρ' => fl = .nx ∧ Ag (AN g) ρ'
def eLp {G : Type} (AN : G → List AS) : G → Fl → List Sl → Prop := fun g fl ρ' => (fl = .nx ∨ fl = .ct) ∧ Ag (AN g) ρ'
inductive Ou (R G : Type) where
  | rt (r : R) | nx (g : G) | bk (g : G)
def eOu {R G : Type} (ER : R → Fl → List Sl → Prop) (AN : G → List AS) : Ou R G → Fl → List Sl → Prop
  | .rt r => ER r
  | .nx g => eLp AN g
  | .bk g => fun fl ρ' => fl = .bk ∧ Ag (AN g) ρ'
section
variable {O R G α β γ : Type} {A A1 A2 A3 B : List AS} {f g h k : PSF} {m m1 m2 : Option O} {E : O → Fl → List Sl → Prop} {fe fe2 fe3 : PF} {r r2 r3 : RF} {i j l : Nat} {t : PT'} {c : Bool} {xs ys : List PV}
theorem sj_wk (d : SJ B f m E) (w : Wk A B) : SJ A f m E := fun o ho ρ hρ => d o ho ρ (hρ.wk w)
theorem seq_nil (ρ : List Sl) : sSeq f sNil ρ = f ρ := by
  unfold sSeq
  cases e : f ρ with
  | none => rfl
  | some x =>
    obtain ⟨fl, ρ'⟩ := x
    cases fl <;> rfl
theorem sj_last (d : SJ A (sSeq f sNil) m E) : SJ A f m E := fun o ho ρ hρ => by
  obtain ⟨fl, ρ', e, q⟩ := d o ho ρ hρ
  rw [seq_nil] at e
  exact ⟨fl, ρ', e, q⟩
theorem seq_assoc (ρ : List Sl) : sSeq (sSeq f g) k ρ = sSeq f (sSeq g k) ρ := by
  unfold sSeq
  cases e : f ρ with
  | none => rfl
  | some x =>
    obtain ⟨fl, ρ'⟩ := x
    cases fl <;> rfl
theorem sj_assoc (d : SJ A (sSeq f (sSeq g k)) m E) : SJ A (sSeq (sSeq f g) k) m E := fun o ho ρ hρ => by
  obtain ⟨fl, ρ', e, q⟩ := d o ho ρ hρ
  rw [← seq_assoc] at e
  exact ⟨fl, ρ', e, q⟩
theorem sj_skip (d : SJ A g m E) : SJ A (sSeq sNil g) m E := d
theorem sj_bind {n : Option α} {kk : α → Option O} (d : ∀ v, n = some v → SJ A f (kk v) E) : SJ A f (n.bind kk) E := fun o ho => by
  rw [Option.bind_eq_some_iff] at ho
  obtain ⟨v, h1, h2⟩ := ho
  exact d v h1 o h2
theorem sj_none : SJ A f (none : Option O) E := fun o ho => by cases ho
theorem sj_let {x : α} {kk : α → Option O} (d : SJ A f (kk x) E) : SJ A f (letQ x kk) E := d
theorem sj_set (d : EJ A fe r A1) (n : r.np) (hs : SJ (A1.set i r.as) g m E) : SJ A (sSeq (sSet i fe) g) m E := fun o ho ρ hρ => by
  obtain ⟨s, ρ1, e1, o1, g1⟩ := d ρ hρ
  obtain ⟨v, h1, h2, h3, _⟩ := RF.vl o1 n
  obtain ⟨fl, ρ', e, q⟩ := hs o ho (ρ1.set i v.sl) (g1.set h3)
  exact ⟨fl, ρ', stSeqN (stSet e1 h1) e, q⟩
theorem sj_setL (rr : α → RF) {x : α} {kk : α → Option O} (d : EJ A fe (rr x) A1) (n : ∀ y, (rr y).np) (hs : ∀ y, SJ (A1.set i (rr y).as) g (kk y) E) : SJ A (sSeq (sSet i fe) g) (letQ x kk) E := sj_set d (n x) (hs x)
theorem ret_core {o : O} (d : EJ A fe r A1) (n : r.np) (hE : ∀ (w : Vl) ρ', r.ok [] w.sl → Ag A1 ρ' → E o (.rt w) ρ') : SJ A (sSeq (sRet fe) g) (some o) E := fun o' ho ρ hρ => by
  cases ho
  obtain ⟨s, ρ1, e1, o1, g1⟩ := d ρ hρ
  obtain ⟨v, h1, h2, _, h4⟩ := RF.vl o1 n
  exact ⟨.rt v, ρ1, stSeqO (stRet e1 h1) rfl, hE v ρ1 (h4 []) g1⟩
theorem retN_core {o : O} (hE : ∀ (w : Vl) ρ', (RF.fz .non).ok [] w.sl → Ag A ρ' → E o (.rt w) ρ') : SJ A (sSeq sRetN g) (some o) E := fun o' ho ρ hρ => by
  cases ho
  exact ⟨.rt (.fz .non), ρ, rfl, hE (.fz .non) ρ rfl hρ⟩
variable {vR : R → RF} {AR : R → List AS} {AN : G → List AS}
theorem sj_retF {o : R} (d : EJ A fe (vR o) A1) (n : (vR o).np) (w : Wk A1 (AR o)) : SJ A (sSeq (sRet fe) g) (some o) (eFn vR AR) := ret_core d n fun v ρ' h1 h2 => .inl ⟨v, rfl, h1, h2.wk w⟩
theorem sj_retO {o : R} (d : EJ A fe (vR o) A1) (n : (vR o).np) (w : Wk A1 (AR o)) : SJ A (sSeq (sRet fe) g) (some (Ou.rt o)) (eOu (eRet vR AR) AN) := ret_core d n fun v ρ' h1 h2 => ⟨v, rfl, h1, h2.wk w⟩
theorem sj_retNF {o : R} (d : vR o = .fz .non) (w : Wk A (AR o)) : SJ A (sSeq sRetN g) (some o) (eFn vR AR) := retN_core fun v ρ' h1 h2 => .inl ⟨v, rfl, by rw [d]; exact h1, h2.wk w⟩
theorem sj_retNO {o : R} (d : vR o = .fz .non) (w : Wk A (AR o)) : SJ A (sSeq sRetN g) (some (Ou.rt o)) (eOu (eRet vR AR) AN) := retN_core fun v ρ' h1 h2 => ⟨v, rfl, by rw [d]; exact h1, h2.wk w⟩
theorem sj_endF {o : R} (d : vR o = .fz .non) (w : Wk A (AR o)) : SJ A sNil (some o) (eFn vR AR) := fun o' ho ρ hρ => by
  cases ho
  exact ⟨.nx, ρ, rfl, .inr ⟨rfl, d, hρ.wk w⟩⟩
theorem sj_endN {o : G} (w : Wk A (AN o)) : SJ A sNil (some o) (eNx AN) := fun o' ho ρ hρ => by
  cases ho
  exact ⟨.nx, ρ, rfl, rfl, hρ.wk w⟩
theorem sj_endL {o : G} (w : Wk A (AN o)) : SJ A sNil (some o) (eLp AN) := fun o' ho ρ hρ => by
  cases ho
  exact ⟨.nx, ρ, rfl, .inl rfl, hρ.wk w⟩
theorem sj_endO {ER : R → Fl → List Sl → Prop} {o : G} (w : Wk A (AN o)) : SJ A sNil (some (Ou.nx o)) (eOu ER AN) := fun o' ho ρ hρ => by
  cases ho
  exact ⟨.nx, ρ, rfl, .inl rfl, hρ.wk w⟩
theorem sj_contL {o : G} (w : Wk A (AN o)) : SJ A (sSeq sCont g) (some o) (eLp AN) := fun o' ho ρ hρ => by
  cases ho
  exact ⟨.ct, ρ, rfl, .inr rfl, hρ.wk w⟩
theorem sj_contO {ER : R → Fl → List Sl → Prop} {o : G} (w : Wk A (AN o)) : SJ A (sSeq sCont g) (some (Ou.nx o)) (eOu ER AN) := fun o' ho ρ hρ => by
  cases ho
  exact ⟨.ct, ρ, rfl, .inr rfl, hρ.wk w⟩
theorem sj_brkO {ER : R → Fl → List Sl → Prop} {o : G} (w : Wk A (AN o)) : SJ A (sSeq sBreak g) (some (Ou.bk o)) (eOu ER AN) := fun o' ho ρ hρ => by
  cases ho
  exact ⟨.bk, ρ, rfl, rfl, hρ.wk w⟩
theorem seq_if {ρ ρ1 : List Sl} (h1 : t ρ = some (true, ρ1)) : sSeq (sIf t f h) k ρ = sSeq f k ρ1 := by
  unfold sSeq
  rw [stIf h1]; rfl
theorem seq_ifN {ρ ρ1 : List Sl} (h1 : t ρ = some (false, ρ1)) : sSeq (sIf t f h) k ρ = sSeq h k ρ1 := by
  unfold sSeq
  rw [stIf h1]; rfl
theorem sj_ifX (d : TJ A t c A1) (d1 : SJ A1 (sSeq f k) m1 E) (d2 : SJ A1 (sSeq h k) m2 E) : SJ A (sSeq (sIf t f h) k) (if c = true then m1 else m2) E := fun o ho ρ hρ => by
  obtain ⟨ρ1, e1, g1⟩ := d ρ hρ
  cases c with
  | true =>
    rw [seq_if e1]
    exact d1 o (by simpa using ho) ρ1 g1
  | false =>
    rw [seq_ifN e1]
    exact d2 o (by simpa using ho) ρ1 g1
theorem sj_ifT (d : TJ A t true A1) (d1 : SJ A1 (sSeq f k) m E) : SJ A (sSeq (sIf t f h) k) m E := fun o ho ρ hρ => by
  obtain ⟨ρ1, e1, g1⟩ := d ρ hρ
  rw [seq_if e1]
  exact d1 o ho ρ1 g1
theorem sj_ifN (d : TJ A t false A1) (d1 : SJ A1 (sSeq h k) m E) : SJ A (sSeq (sIf t f h) k) m E := fun o ho ρ hρ => by
  obtain ⟨ρ1, e1, g1⟩ := d ρ hρ
  rw [seq_ifN e1]
  exact d1 o ho ρ1 g1
theorem sj_ifJ {n1 n2 : Option G} {kk : G → Option O} (AJ : G → List AS) (d : TJ A t c A1) (d1 : SJ A1 f n1 (eNx AJ)) (d2 : SJ A1 h n2 (eNx AJ)) (dk : ∀ g, SJ (AJ g) k (kk g) E) : SJ A (sSeq (sIf t f h) k) ((if c = true then n1 else n2).bind kk) E := fun o ho ρ hρ => by
  obtain ⟨ρ1, e1, g1⟩ := d ρ hρ
  rw [Option.bind_eq_some_iff] at ho
  obtain ⟨v, h1, h2⟩ := ho
  cases c with
  | true =>
    rw [seq_if e1]
    obtain ⟨fl, ρ', e, rfl, q⟩ := d1 v (by simpa using h1) ρ1 g1
    obtain ⟨fl2, ρ2, e3, q2⟩ := dk v o h2 ρ' q
    exact ⟨fl2, ρ2, stSeqN e e3, q2⟩
  | false =>
    rw [seq_ifN e1]
    obtain ⟨fl, ρ', e, rfl, q⟩ := d2 v (by simpa using h1) ρ1 g1
    obtain ⟨fl2, ρ2, e3, q2⟩ := dk v o h2 ρ' q
    exact ⟨fl2, ρ2, stSeqN e e3, q2⟩
theorem sj_ifJ0 {x y : G} {kk : G → Option O} (AJ : G → List AS) (d : TJ A t c A1) (d1 : SJ A1 f (some x) (eNx AJ)) (d2 : SJ A1 h (some y) (eNx AJ)) (dk : ∀ g, SJ (AJ g) k (kk g) E) : SJ A (sSeq (sIf t f h) k) (letQ (if c = true then x else y) kk) E := by
  have := sj_ifJ AJ d d1 d2 dk
  cases c <;> exact this
theorem sj_expr (d : EJ A fe r A1) (hs : SJ A1 g m E) : SJ A (sSeq (sExpr fe) g) m E := fun o ho ρ hρ => by
  obtain ⟨s, ρ1, e1, o1, g1⟩ := d ρ hρ
  obtain ⟨fl, ρ', e, q⟩ := hs o ho ρ1 g1
  exact ⟨fl, ρ', stSeqN (stExpr e1) e, q⟩
theorem sj_par2 (d : EJ A fe r A1) (d2 : EJ A1 fe2 r2 A2) (n : r.np) (n2 : r2.np) (hs : SJ ((A2.set i r.as).set j r2.as) g m E) : SJ A (sSeq (sPar i j (aCons fe (aCons fe2 aNil))) g) m E := fun o ho ρ hρ => by
  obtain ⟨s, ρ1, e1, o1, g1⟩ := d ρ hρ
  obtain ⟨s2, ρ2, e2, o2, g2⟩ := d2 ρ1 g1
  obtain ⟨v, h1, h2, h3, _⟩ := RF.vl o1 n
  obtain ⟨v2, k1, k2, k3, _⟩ := RF.vl o2 n2
  obtain ⟨fl, ρ', e, q⟩ := hs o ho ((ρ2.set i v.sl).set j v2.sl) ((g2.set h3).set k3)
  exact ⟨fl, ρ', stSeqN (stPar (stCons e1 (stOne e2)) h1 k1) e, q⟩
theorem sj_par2L (rr : α → RF) (rr2 : β → RF) {x : α} {y : β} {kk : α → β → Option O} (d : EJ A fe (rr x) A1) (d2 : EJ A1 fe2 (rr2 y) A2) (n : ∀ x, (rr x).np) (n2 : ∀ y, (rr2 y).np) (hs : ∀ x y, SJ ((A2.set i (rr x).as).set j (rr2 y).as) g (kk x y) E) : SJ A (sSeq (sPar i j (aCons fe (aCons fe2 aNil))) g) (letQ x fun x => letQ y fun y => kk x y) E := sj_par2 d d2 (n x) (n2 y) (hs x y)
theorem sj_par3L (rr : α → RF) (rr2 : β → RF) (rr3 : γ → RF) {x : α} {y : β} {z : γ} {kk : α → β → γ → Option O} (d : EJ A fe (rr x) A1) (d2 : EJ A1 fe2 (rr2 y) A2) (d3 : EJ A2 fe3 (rr3 z) A3) (n : ∀ x, (rr x).np) (n2 : ∀ y, (rr2 y).np) (n3 : ∀ z, (rr3 z).np) (hs : ∀ x y z, SJ (((A3.set i (rr x).as).set j (rr2 y).as).set l (rr3 z).as) g (kk x y z) E) : SJ A (sSeq (sPar3 i j l (aCons fe (aCons fe2 (aCons fe3 aNil)))) g) (letQ x fun x => letQ y fun y => letQ z fun z => kk x y z) E := fun o ho ρ hρ => by
  obtain ⟨s, ρ1, e1, o1, g1⟩ := d ρ hρ
  obtain ⟨s2, ρ2, e2, o2, g2⟩ := d2 ρ1 g1
  obtain ⟨s3, ρ3, e3, o3, g3⟩ := d3 ρ2 g2
  obtain ⟨v, h1, h2, h3, _⟩ := RF.vl o1 (n x)
  obtain ⟨v2, k1, k2, k3, _⟩ := RF.vl o2 (n2 y)
  obtain ⟨v3, l1, l2, l3, _⟩ := RF.vl o3 (n3 z)
  obtain ⟨fl, ρ', e, q⟩ := hs x y z o ho (((ρ3.set i v.sl).set j v2.sl).set l v3.sl) (((g3.set h3).set k3).set l3)
  refine ⟨fl, ρ', stSeqN ?_ e, q⟩
  unfold sPar3
  rw [stCons e1 (stCons e2 (stOne e3)), Option.bind_some]
  show (toVl s).bind _ = _
  rw [h1, Option.bind_some, k1, Option.bind_some, l1]; rfl
theorem sj_asg {tg : PGF} (d : EJ A fe r A1) (n : r.np) (dg : GJ A1 tg r.pv A2) (hs : SJ A2 g m E) : SJ A (sSeq (sAsg fe tg) g) m E := fun o ho ρ hρ => by
  obtain ⟨s, ρ1, e1, o1, g1⟩ := d ρ hρ
  obtain ⟨ρ2, e2, g2⟩ := dg ρ1 g1
  obtain ⟨fl, ρ', e, q⟩ := hs o ho ρ2 g2
  exact ⟨fl, ρ', stSeqN (stAsg e1 (rf_val o1 n) e2) e, q⟩
theorem sj_asgL {tg : PGF} (e : α → PV) {x : α} {kk : α → Option O} (d : EJ A fe r A1) (n : r.np) (he : r.pv = e x) {A2 : α → List AS} (dg : ∀ y, GJ A1 tg (e y) (A2 y)) (hs : ∀ y, SJ (A2 y) g (kk y) E) : SJ A (sSeq (sAsg fe tg) g) (letQ x kk) E := sj_asg d n (he ▸ dg x) (hs x)
def setQ (xs : List α) (j : Int) (v : α) : Option (List α) := (L2.ixN xs.length j).map fun m => xs.set m v
theorem sj_setIx {zs zs' : List α} {e : α → PV} {v : α} {jj : Int} (d : EJ A fe r A1) (n : r.np) (he : r.pv = e v) (h0 : A1[i]? = some (.own ys)) (d2 : EJ A1 fe2 (.fz (.int jj)) A2) (h1 : A2[i]? = some (.own (zs.map e))) (hq : setQ zs jj v = some zs') (hs : SJ (A2.set i (.own (zs'.map e))) g m E) : SJ A (sSeq (sSetIx i fe fe2) g) m E := fun o ho ρ hρ => by
  obtain ⟨s, ρ1, e1, o1, g1⟩ := d ρ hρ
  obtain ⟨t, e0, o0⟩ := g1.get h0
  rw [show t = .own ys from o0] at e0
  obtain ⟨s2, ρ2, e2, o2, g2⟩ := d2 ρ1 g1
  rw [show s2 = .fz (.int jj) from o2] at e2
  obtain ⟨t, e3, o3⟩ := g2.get h1
  rw [show t = .own (zs.map e) from o3] at e3
  unfold setQ at hq
  rw [Option.map_eq_some_iff] at hq
  obtain ⟨mm, q1, rfl⟩ := hq
  have e5 : (zs.set mm v).map e = (zs.map e).set mm r.pv := by rw [List.map_set, he]
  obtain ⟨fl, ρ', e4, q⟩ := hs o ho (ρ2.set i (.own ((zs.map e).set mm r.pv))) (by rw [e5]; exact g2.set rfl)
  exact ⟨fl, ρ', stSeqN (stSetIx e1 (rf_val o1 n) e0 e2 e3 (by rw [List.length_map]; exact q1)) e4, q⟩
theorem sj_aug {a b : Int} (h0 : A[i]? = some (.fz (.int a))) (d : EJ A fe (.fz (.int b)) A1) {kk : Int → Option O} (hs : ∀ y, SJ (A1.set i (.fz (.int y))) g (kk y) E) : SJ A (sSeq (sAug i fe) g) (letQ (a + b) kk) E := fun o ho ρ hρ => by
  obtain ⟨t, e0, o0⟩ := hρ.get h0
  rw [show t = .fz (.int a) from o0] at e0
  obtain ⟨s, ρ1, e1, o1, g1⟩ := d ρ hρ
  rw [show s = .fz (.int b) from o1] at e1
  obtain ⟨fl, ρ', e, q⟩ := hs (a + b) o ho _ (g1.set (i := i) rfl)
  exact ⟨fl, ρ', stSeqN (stAug e0 e1) e, q⟩
/-! ### for -/
def forG (xs : List α) (g : G) (b : α → G → Option G) : Option G := match xs with
  | [] => some g
  | x :: r => (b x g).bind fun g' => forG r g' b
def forR (xs : List α) (g : G) (b : α → G → Option (Ou R G)) (kR : R → O) (kk : G → Option O) : Option O := match xs with
  | [] => kk g
  | x :: r => (b x g).bind fun o => match o with
    | .rt v => some (kR v)
    | .nx g' => forR r g' b kR kk
    | .bk g' => kk g'
theorem sj_for {xs : List α} {e : α → PV} {g0 : G} {b : α → G → Option G} {kk : G → Option O} {w : PIF} {tg : PGF} {body : PSF} (AH : G → List AS) {AB : α → G → List AS} (hw : IJ A w (xs.map e) A1) (h0 : Wk A1 (AH g0))
    (hg : ∀ x g, GJ (AH g) tg (e x) (AB x g)) (hb : ∀ x g, SJ (AB x g) body (b x g) (eLp AH)) (hk : ∀ g, SJ (AH g) k (kk g) E) : SJ A (sSeq (sFor w tg body) k) ((forG xs g0 b).bind kk) E := by
  have key : ∀ (xs : List α) (g0 g1 : G) (ρ : List Sl), Ag (AH g0) ρ → forG xs g0 b = some g1 → ∃ ρ', forP tg body (xs.map e) ρ = some (.nx, ρ') ∧ Ag (AH g1) ρ' := by
    intro xs
    induction xs with
    | nil => intro g0 g1 ρ hρ h; cases h; exact ⟨ρ, rfl, hρ⟩
    | cons x r ih =>
      intro g0 g1 ρ hρ h
      unfold forG at h
      rw [Option.bind_eq_some_iff] at h
      obtain ⟨g2, q1, q2⟩ := h
      obtain ⟨ρ1, e1, a1⟩ := hg x g0 ρ hρ
      obtain ⟨fl, ρ2, e2, hf, a2⟩ := hb x g0 g2 q1 ρ1 a1
      obtain ⟨ρ3, e3, a3⟩ := ih g2 g1 ρ2 a2 q2
      refine ⟨ρ3, ?_, a3⟩
      show (tg (e x) ρ).bind _ = _
      rw [e1, Option.bind_some, e2, Option.bind_some]
      rcases hf with rfl | rfl <;> exact e3
  intro o ho ρ hρ
  rw [Option.bind_eq_some_iff] at ho
  obtain ⟨g1, q1, q2⟩ := ho
  obtain ⟨rs, ρ1, e1, _, a1⟩ := hw ρ hρ
  obtain ⟨ρ2, e2, a2⟩ := key xs g0 g1 ρ1 (a1.wk h0) q1
  obtain ⟨fl, ρ3, e3, q⟩ := hk g1 o q2 ρ2 a2
  exact ⟨fl, ρ3, stSeqN (stFor e1 e2) e3, q⟩
theorem sj_forR {xs : List α} {e : α → PV} {g0 : G} {b : α → G → Option (Ou R G)} {kR : R → O} {kk : G → Option O} {w : PIF} {tg : PGF} {body : PSF} (AH : G → List AS) {AB : α → G → List AS} (hw : IJ A w (xs.map e) A1) (h0 : Wk A1 (AH g0))
    (hg : ∀ x g, GJ (AH g) tg (e x) (AB x g)) (hb : ∀ x g, SJ (AB x g) body (b x g) (eOu (eRet vR AR) AH)) (hR : ∀ r fl ρ', eRet vR AR r fl ρ' → E (kR r) fl ρ') (hk : ∀ g, SJ (AH g) k (kk g) E) : SJ A (sSeq (sFor w tg body) k) (forR xs g0 b kR kk) E := by
  have key : ∀ (xs : List α) (g0 : G) (o : O) (ρ : List Sl), Ag (AH g0) ρ → forR xs g0 b kR kk = some o → ∃ fl ρ', forP tg body (xs.map e) ρ = some (fl, ρ') ∧ ((∃ g1, fl = .nx ∧ kk g1 = some o ∧ Ag (AH g1) ρ') ∨ (∃ r, kR r = o ∧ eRet vR AR r fl ρ')) := by
    intro xs
    induction xs with
    | nil => intro g0 o ρ hρ h; exact ⟨.nx, ρ, rfl, .inl ⟨g0, rfl, h, hρ⟩⟩
    | cons x r ih =>
      intro g0 o ρ hρ h
      unfold forR at h
      rw [Option.bind_eq_some_iff] at h
      obtain ⟨o2, q1, q2⟩ := h
      obtain ⟨ρ1, e1, a1⟩ := hg x g0 ρ hρ
      obtain ⟨fl, ρ2, e2, hf⟩ := hb x g0 o2 q1 ρ1 a1
      cases o2 with
      | rt v =>
        cases q2
        obtain ⟨w, rfl, hh⟩ := hf
        refine ⟨.rt w, ρ2, ?_, .inr ⟨v, rfl, w, rfl, hh⟩⟩
        show (tg (e x) ρ).bind _ = _
        rw [e1, Option.bind_some, e2, Option.bind_some]
      | nx g2 =>
        obtain ⟨hf, a2⟩ := hf
        obtain ⟨fl3, ρ3, e3, a3⟩ := ih g2 o ρ2 a2 q2
        refine ⟨fl3, ρ3, ?_, a3⟩
        show (tg (e x) ρ).bind _ = _
        rw [e1, Option.bind_some, e2, Option.bind_some]
        rcases hf with rfl | rfl <;> exact e3
      | bk g2 =>
        obtain ⟨rfl, a2⟩ := hf
        refine ⟨.nx, ρ2, ?_, .inl ⟨g2, rfl, q2, a2⟩⟩
        show (tg (e x) ρ).bind _ = _
        rw [e1, Option.bind_some, e2, Option.bind_some]
  intro o ho ρ hρ
  obtain ⟨rs, ρ1, e1, _, a1⟩ := hw ρ hρ
  obtain ⟨fl, ρ2, e2, hh⟩ := key xs g0 o ρ1 (a1.wk h0) ho
  rcases hh with ⟨g1, rfl, q2, a2⟩ | ⟨r, rfl, hr⟩
  · obtain ⟨fl, ρ3, e3, q⟩ := hk g1 o q2 ρ2 a2
    exact ⟨fl, ρ3, stSeqN (stFor e1 e2) e3, q⟩
  · obtain ⟨w, rfl, hh⟩ := hr
    exact ⟨.rt w, ρ2, stSeqO (stFor e1 e2) rfl, hR r _ _ ⟨w, rfl, hh⟩⟩
/-! ### while -/
def whileG (n : Nat) (g : G) (mc : G → Option α) (c : α → Bool) (b : G → α → Option G) (z : G → α → G) : Option G := match n with
  | 0 => none
  | n + 1 => (mc g).bind fun v => if c v = true then (b g v).bind fun g' => whileG n g' mc c b z else some (z g v)
theorem sj_while {n : Nat} {g0 : G} {mc : G → Option α} {cc : α → Bool} {b : G → α → Option G} {z : G → α → G} {kk : G → Option O} {body : PSF} (AH : G → List AS) (AT : G → α → List AS) (h0 : Wk A (AH g0))
    (ht : ∀ g, TJO (AH g) t (mc g) cc (AT g)) (hb : ∀ g v, mc g = some v → SJ (AT g v) body (b g v) (eLp AH)) (hz : ∀ g v, Wk (AT g v) (AH (z g v))) (hk : ∀ g, SJ (AH g) k (kk g) E) : SJ A (sSeq (sWhile t body) k) ((whileG n g0 mc cc b z).bind kk) E := by
  have key : ∀ (n : Nat) (g0 g1 : G) (ρ : List Sl), Ag (AH g0) ρ → whileG n g0 mc cc b z = some g1 → ∃ ρ', whileN t body n ρ = some (.nx, ρ') ∧ Ag (AH g1) ρ' := by
    intro n
    induction n with
    | zero => intro g0 g1 ρ hρ h; cases h
    | succ n ih =>
      intro g0 g1 ρ hρ h
      unfold whileG at h
      rw [Option.bind_eq_some_iff] at h
      obtain ⟨v, q1, q2⟩ := h
      obtain ⟨ρ1, e1, a1⟩ := ht g0 v q1 ρ hρ
      unfold whileN
      rw [e1, Option.bind_some]
      by_cases hc : cc v = true
      · rw [if_pos hc] at q2 ⊢
        rw [Option.bind_eq_some_iff] at q2
        obtain ⟨g2, q2, q3⟩ := q2
        obtain ⟨fl, ρ2, e2, hf, a2⟩ := hb g0 v q1 g2 q2 ρ1 a1
        obtain ⟨ρ3, e3, a3⟩ := ih g2 g1 ρ2 a2 q3
        refine ⟨ρ3, ?_, a3⟩
        show (body ρ1).bind _ = _
        rw [e2, Option.bind_some]
        rcases hf with rfl | rfl <;> exact e3
      · rw [if_neg hc] at q2 ⊢
        cases q2
        exact ⟨ρ1, rfl, a1.wk (hz g0 v)⟩
  intro o ho ρ hρ
  rw [Option.bind_eq_some_iff] at ho
  obtain ⟨g1, q1, q2⟩ := ho
  obtain ⟨ρ2, e2, a2⟩ := key n g0 g1 ρ (hρ.wk h0) q1
  obtain ⟨fl, ρ3, e3, q⟩ := hk g1 o q2 ρ2 a2
  exact ⟨fl, ρ3, stSeqN (sWhile_iff.mpr ⟨n, e2⟩) e3, q⟩
end
/-! ### list comprehensions -/
def restA (A A1 : List AS) : List Nat → List AS
  | [] => A
  | v :: vs => (restA A A1 vs).set v (A1[v]?.getD .any)
def wipeA (A : List AS) : List Nat → List AS
  | [] => A
  | v :: vs => (wipeA A vs).set v .any
section
variable {α β G : Type} {A A1 B : List AS} {w : PIF} {tg : PGF} {tt : PT'} {fe : PF}
theorem ag_wipe {ρ : List Sl} (h : Ag B ρ) : ∀ vs : List Nat, Ag (wipeA B vs) (wipeS ρ vs)
  | [] => h
  | v :: vs => by
    unfold wipeA wipeS
    exact (ag_wipe h vs).set trivial
theorem ag_wipe0 {ρ : List Sl} (h : Ag B ρ) : ∀ vs : List Nat, Ag (wipeA B vs) ρ
  | [] => h
  | v :: vs => by
    unfold wipeA
    exact (ag_wipe0 h vs).drop1
theorem ag_rest {ρ ρ0 : List Sl} (h : Ag B ρ) (h0 : Ag A1 ρ0) : ∀ vs : List Nat, Ag (restA B A1 vs) (backS ρ vs (keepS ρ0 vs))
  | [] => by unfold restA backS; exact h
  | v :: vs => by
    have ih := ag_rest h h0 vs
    show Ag ((restA B A1 vs).set v _) ((backS ρ vs (keepS ρ0 vs)).set v ((ρ0[v]?).getD .un))
    refine ih.set ?_
    cases e : A1[v]? with
    | none => exact trivial
    | some a =>
      obtain ⟨s, h1, h2⟩ := h0.get e
      rw [h1]; exact h2
theorem wipe_wipe : ∀ (vs us : List Nat), wipeA (wipeA B us) vs = wipeA (wipeA B us) vs := fun _ _ => rfl
/-- what a comprehension makes, item by item; a state is handed on -/
def lcS (xs : List α) (g : G) (b : α → G → Option (Option β × G)) : Option (List β × G) := match xs with
  | [] => some ([], g)
  | x :: r => (b x g).bind fun y => (lcS r y.2 b).map fun z => ((match y.1 with | some v => v :: z.1 | none => z.1), z.2)
theorem lc_core {xs : List α} {e : α → PV} {e' : β → PV} {g0 g1 : G} {ys : List β} {b : α → G → Option (Option β × G)} {vs : List Nat} (AH : G → List AS) (hw : IJ A w (xs.map e) A1) (h0 : Wk A1 (AH g0))
    (st : ∀ x g o g', b x g = some (o, g') → ∀ ρ, Ag (wipeA (AH g) vs) ρ → ∃ ρ1 bb ρ2, tg (e x) ρ = some ρ1 ∧ tt ρ1 = some (bb, ρ2) ∧ ((bb = false ∧ o = none ∧ Ag (wipeA (AH g') vs) ρ2) ∨ (∃ y s ρ3, bb = true ∧ o = some y ∧ fe ρ2 = some (s, ρ3) ∧ valOf s = some (e' y) ∧ Ag (wipeA (AH g') vs) ρ3)))
    (hm : lcS xs g0 b = some (ys, g1)) : EJ A (eLc w vs tg tt fe) (.own (ys.map e')) (restA (wipeA (AH g1) vs) A1 vs) := by
  have key : ∀ (xs : List α) (g0 g1 : G) (ys : List β) (ρ : List Sl), Ag (wipeA (AH g0) vs) ρ → lcS xs g0 b = some (ys, g1) → ∃ ρ', lcP vs tg tt fe (xs.map e) ρ = some (ys.map e', ρ') ∧ Ag (wipeA (AH g1) vs) ρ' := by
    intro xs
    induction xs with
    | nil => intro g0 g1 ys ρ hρ h; cases h; exact ⟨ρ, rfl, hρ⟩
    | cons x r ih =>
      intro g0 g1 ys ρ hρ h
      unfold lcS at h
      rw [Option.bind_eq_some_iff] at h
      obtain ⟨⟨o, g2⟩, q1, q2⟩ := h
      rw [Option.map_eq_some_iff] at q2
      obtain ⟨⟨zs, g3⟩, q2, q3⟩ := q2
      cases q3
      have hρ' : Ag (wipeA (AH g0) vs) (wipeS ρ vs) := by
        have : wipeA (wipeA (AH g0) vs) vs = wipeA (AH g0) vs := by
          have one : ∀ (vs us : List Nat) (A : List AS), (∀ v ∈ vs, v ∈ us) → wipeA (wipeA A us) vs = wipeA A us := by
            intro vs us A
            induction vs with
            | nil => intro _; rfl
            | cons v vs ih2 =>
              intro hv
              unfold wipeA
              rw [ih2 fun u hu => hv u (List.mem_cons_of_mem _ hu)]
              have hm := hv v List.mem_cons_self
              clear hv ih2
              induction us with
              | nil => cases hm
              | cons u us ih3 =>
                show ((wipeA A us).set u AS.any).set v AS.any = (wipeA A us).set u AS.any
                rcases List.mem_cons.mp hm with rfl | hm
                · rw [List.set_set]
                · by_cases hvu : v = u
                  · subst hvu; rw [List.set_set]
                  · rw [List.set_comm _ _ (fun z => hvu z.symm)]
                    have := ih3 hm
                    cases us with
                    | nil => cases hm
                    | cons u2 us2 => rw [show (wipeA A (u2 :: us2)).set v AS.any = wipeA A (u2 :: us2) from this]
          exact one vs vs _ fun v h => h
        rw [← this]
        exact ag_wipe hρ vs
      obtain ⟨ρ1, bb, ρ2, e1, e2, hh⟩ := st x g0 o g2 q1 _ hρ'
      show ∃ ρ', (tg (e x) (wipeS ρ vs)).bind _ = _ ∧ _
      rw [e1, Option.bind_some, e2, Option.bind_some]
      rcases hh with ⟨rfl, rfl, a2⟩ | ⟨y, s, ρ3, rfl, rfl, e3, e4, a3⟩
      · obtain ⟨ρ', e5, a5⟩ := ih g2 _ _ ρ2 a2 q2
        refine ⟨ρ', ?_, a5⟩
        rw [if_neg (by simp)]
        exact e5
      · obtain ⟨ρ', e5, a5⟩ := ih g2 _ _ ρ3 a3 q2
        refine ⟨ρ', ?_, a5⟩
        rw [if_pos rfl, e3, Option.bind_some]
        dsimp only
        rw [e4, Option.bind_some, e5]; rfl
  intro ρ hρ
  obtain ⟨rs, ρ1, e1, hp, a1⟩ := hw ρ hρ
  obtain ⟨ρ2, e2, a2⟩ := key xs g0 g1 ys ρ1 (ag_wipe0 (a1.wk h0) vs) hm
  refine ⟨_, _, ?_, rfl, ag_rest a2 a1 vs⟩
  unfold eLc
  rw [e1, Option.bind_some]
  dsimp only
  rw [e2]
  show some (_, putB rs (rs.map tmpOf) _) = _
  rw [hp]
def mapO (xs : List α) (b : α → Option β) : Option (List β) := match xs with
  | [] => some []
  | x :: r => (b x).bind fun y => (mapO r b).map fun z => y :: z
theorem ej_lc {xs : List α} {e : α → PV} {f : α → β} {vs : List Nat} {e' : β → PV} {AH : List AS} {AB AC : α → List AS} {r : α → RF} (hw : IJ A w (xs.map e) A1) (h0 : Wk A1 AH)
    (hg : ∀ x, GJ (wipeA AH vs) tg (e x) (AB x)) (he : ∀ x, EJ (AB x) fe (r x) (AC x)) (hn : ∀ x, (r x).np) (hr : ∀ x, (r x).pv = e' (f x)) (hz : ∀ x, Wk (AC x) (wipeA AH vs)) : EJ A (eLc w vs tg tTrue fe) (.own ((xs.map f).map e')) (restA (wipeA AH vs) A1 vs) := by
  refine lc_core (G := Unit) (g0 := ()) (g1 := ()) (b := fun x _ => some (some (f x), ())) (fun _ => AH) hw h0 ?_ ?_
  · intro x g o g' h ρ hρ
    cases h
    obtain ⟨ρ1, e1, a1⟩ := hg x ρ hρ
    obtain ⟨s, ρ2, e2, o2, a2⟩ := he x ρ1 a1
    exact ⟨ρ1, true, ρ1, e1, rfl, .inr ⟨_, s, ρ2, rfl, rfl, e2, by rw [rf_val o2 (hn x), hr x], a2.wk (hz x)⟩⟩
  · clear hw
    induction xs with
    | nil => rfl
    | cons x xs ih => unfold lcS; rw [Option.bind_some]; dsimp only; rw [ih]; rfl
theorem ej_lcM {xs : List α} {e : α → PV} {f : α → Option β} {ys : List β} {vs : List Nat} {e' : β → PV} {AH : List AS} {AB : α → List AS} {rr : β → RF} {AC : α → β → List AS} (hw : IJ A w (xs.map e) A1) (h0 : Wk A1 AH)
    (hg : ∀ x, GJ (wipeA AH vs) tg (e x) (AB x)) (he : ∀ x, EJO (AB x) fe (f x) rr (AC x)) (hn : ∀ y, (rr y).np) (hr : ∀ y, (rr y).pv = e' y) (hz : ∀ x y, Wk (AC x y) (wipeA AH vs)) (hm : mapO xs f = some ys) : EJ A (eLc w vs tg tTrue fe) (.own (ys.map e')) (restA (wipeA AH vs) A1 vs) := by
  refine lc_core (G := Unit) (g0 := ()) (g1 := ()) (b := fun x _ => (f x).map fun y => (some y, ())) (fun _ => AH) hw h0 ?_ ?_
  · intro x g o g' h ρ hρ
    rw [Option.map_eq_some_iff] at h
    obtain ⟨y, h1, h2⟩ := h
    cases h2
    obtain ⟨ρ1, e1, a1⟩ := hg x ρ hρ
    obtain ⟨s, ρ2, e2, o2, a2⟩ := he x y h1 ρ1 a1
    exact ⟨ρ1, true, ρ1, e1, rfl, .inr ⟨_, s, ρ2, rfl, rfl, e2, by rw [rf_val o2 (hn y), hr y], a2.wk (hz x y)⟩⟩
  · clear hw
    induction xs generalizing ys with
    | nil => cases hm; rfl
    | cons x xs ih =>
      unfold mapO at hm
      rw [Option.bind_eq_some_iff] at hm
      obtain ⟨y, q1, q2⟩ := hm
      rw [Option.map_eq_some_iff] at q2
      obtain ⟨zs, q2, rfl⟩ := q2
      unfold lcS
      rw [q1, Option.map_some, Option.bind_some]
      dsimp only
      rw [ih q2]; rfl
theorem ej_lcF {xs : List α} {e : α → PV} {f : α → β} {c : α → Bool} {vs : List Nat} {e' : β → PV} {AH : List AS} {AB AT AC : α → List AS} {r : α → RF} (hw : IJ A w (xs.map e) A1) (h0 : Wk A1 AH)
    (hg : ∀ x, GJ (wipeA AH vs) tg (e x) (AB x)) (ht : ∀ x, TJ (AB x) tt (c x) (AT x)) (he : ∀ x, EJ (AT x) fe (r x) (AC x)) (hn : ∀ x, (r x).np) (hr : ∀ x, (r x).pv = e' (f x)) (hz : ∀ x, Wk (AC x) (wipeA AH vs)) (hy : ∀ x, Wk (AT x) (wipeA AH vs)) : EJ A (eLc w vs tg tt fe) (.own (((xs.filter c).map f).map e')) (restA (wipeA AH vs) A1 vs) := by
  refine lc_core (G := Unit) (g0 := ()) (g1 := ()) (b := fun x _ => some (if c x = true then some (f x) else none, ())) (fun _ => AH) hw h0 ?_ ?_
  · intro x g o g' h ρ hρ
    cases h
    obtain ⟨ρ1, e1, a1⟩ := hg x ρ hρ
    obtain ⟨ρ2, e2, a2⟩ := ht x ρ1 a1
    cases hc : c x with
    | false =>
      rw [hc] at e2
      exact ⟨ρ1, false, ρ2, e1, e2, .inl ⟨rfl, rfl, a2.wk (hy x)⟩⟩
    | true =>
      rw [hc] at e2
      obtain ⟨s, ρ3, e3, o3, a3⟩ := he x ρ2 a2
      exact ⟨ρ1, true, ρ2, e1, e2, .inr ⟨_, s, ρ3, rfl, rfl, e3, by rw [rf_val o3 (hn x), hr x], a3.wk (hz x)⟩⟩
  · clear hw
    induction xs with
    | nil => rfl
    | cons x xs ih =>
      unfold lcS
      rw [Option.bind_some]
      dsimp only
      rw [ih]
      cases hc : c x with
      | false => rw [List.filter_cons_of_neg (by rw [hc]; simp)]; rfl
      | true => rw [List.filter_cons_of_pos hc]; rfl
/-- every item gives one; a state is handed on -/
def lcT (xs : List α) (g : G) (b : α → G → Option (β × G)) : Option (List β × G) := match xs with
  | [] => some ([], g)
  | x :: r => (b x g).bind fun y => (lcT r y.2 b).map fun z => (y.1 :: z.1, z.2)
theorem ej_lcT {xs : List α} {e : α → PV} {g0 g1 : G} {ys : List β} {me : α → G → Option (β × G)} {vs : List Nat} {e' : β → PV} {AH : G → List AS} {AB : α → G → List AS} {rr : β → RF}
    (hw : IJ A w (xs.map e) A1) (h0 : Wk A1 (AH g0)) (hg : ∀ x g, GJ (wipeA (AH g) vs) tg (e x) (AB x g))
    (he : ∀ x g, EJO (AB x g) fe (me x g) (fun y => rr y.1) (fun y => wipeA (AH y.2) vs)) (hn : ∀ y, (rr y).np) (hr : ∀ y, (rr y).pv = e' y)
    (hm : lcT xs g0 me = some (ys, g1)) : EJ A (eLc w vs tg tTrue fe) (.own (ys.map e')) (restA (wipeA (AH g1) vs) A1 vs) := by
  refine lc_core (b := fun x g => (me x g).map fun y => (some y.1, y.2)) AH hw h0 ?_ ?_
  · intro x g o g' h ρ hρ
    rw [Option.map_eq_some_iff] at h
    obtain ⟨⟨y, g2⟩, h2, h3⟩ := h
    cases h3
    obtain ⟨ρ1, e1, a1⟩ := hg x g ρ hρ
    obtain ⟨s, ρ3, e3, o3, a3⟩ := he x g _ h2 ρ1 a1
    exact ⟨ρ1, true, ρ1, e1, rfl, .inr ⟨_, s, ρ3, rfl, rfl, e3, by rw [rf_val o3 (hn _), hr _], a3⟩⟩
  · clear hw h0
    induction xs generalizing ys g0 with
    | nil => cases hm; rfl
    | cons x xs ih =>
      unfold lcT at hm
      rw [Option.bind_eq_some_iff] at hm
      obtain ⟨y, q1, q2⟩ := hm
      rw [Option.map_eq_some_iff] at q2
      obtain ⟨⟨zs, g3⟩, q2, q3⟩ := q2
      cases q3
      unfold lcS
      rw [q1, Option.map_some, Option.bind_some]
      dsimp only
      rw [ih q2]; rfl
/-- the general one: a test, an element, both perhaps failing, a state handed on -/
theorem ej_lcS {σ : Type} {xs : List α} {e : α → PV} {g0 g1 : G} {ys : List β} {b : α → G → Option (Option β × G)} {vs : List Nat} {e' : β → PV} {AH : G → List AS} {AB : α → G → List AS} (mc : α → G → Option σ) (cc : α → G → σ → Bool) (AT : α → G → σ → List AS) (me : α → G → σ → Option (β × G)) (rr : β → RF) (zz : α → G → σ → G)
    (hw : IJ A w (xs.map e) A1) (h0 : Wk A1 (AH g0)) (hg : ∀ x g, GJ (wipeA (AH g) vs) tg (e x) (AB x g)) (ht : ∀ x g, TJO (AB x g) tt (mc x g) (cc x g) (AT x g))
    (he : ∀ x g v, mc x g = some v → EJO (AT x g v) fe (me x g v) (fun y => rr y.1) (fun y => wipeA (AH y.2) vs)) (hn : ∀ y, (rr y).np) (hr : ∀ y, (rr y).pv = e' y) (hy : ∀ x g v, cc x g v = false → Wk (AT x g v) (wipeA (AH (zz x g v)) vs))
    (hb : ∀ x g, b x g = (mc x g).bind fun v => if cc x g v = true then (me x g v).map fun y => (some y.1, y.2) else some (none, zz x g v))
    (hm : lcS xs g0 b = some (ys, g1)) : EJ A (eLc w vs tg tt fe) (.own (ys.map e')) (restA (wipeA (AH g1) vs) A1 vs) := by
  refine lc_core AH hw h0 ?_ hm
  intro x g o g' h ρ hρ
  rw [hb, Option.bind_eq_some_iff] at h
  obtain ⟨v, h1, h⟩ := h
  obtain ⟨ρ1, e1, a1⟩ := hg x g ρ hρ
  obtain ⟨ρ2, e2, a2⟩ := ht x g v h1 ρ1 a1
  cases hc : cc x g v with
  | false =>
    rw [hc] at e2 h
    cases h
    exact ⟨ρ1, false, ρ2, e1, e2, .inl ⟨rfl, rfl, a2.wk (hy x g v hc)⟩⟩
  | true =>
    rw [hc] at e2 h
    rw [if_pos rfl, Option.map_eq_some_iff] at h
    obtain ⟨⟨y, g2⟩, h2, h3⟩ := h
    cases h3
    obtain ⟨s, ρ3, e3, o3, a3⟩ := he x g v h1 _ h2 ρ2 a2
    exact ⟨ρ1, true, ρ2, e1, e2, .inr ⟨_, s, ρ3, rfl, rfl, e3, by rw [rf_val o3 (hn _), hr _], a3⟩⟩
end
/-! ### calls -/
def FJ (F : FP) (as : List AS) (r : RF) (bs : List AS) : Prop := ∀ ss, Ag as ss → ∃ (v : Vl) (ss' : List Sl), F ss = some (v, ss') ∧ r.ok [] v.sl ∧ Ag bs ss'
inductive CR where
  | v (r : RF) | b (i : Nat) (xs : List PV) | k (i : Nat)
def CR.as : CR → AS
  | .v r => r.as
  | .b _ xs => .own xs
  | .k _ => .any
inductive CRok : List CR → List Sl → Prop
  | nil : CRok [] []
  | v {r : RF} {s : Sl} {cs : List CR} {ss : List Sl} : r.ok [] s → r.np → CRok cs ss → CRok (.v r :: cs) (s :: ss)
  | b {i : Nat} {xs : List PV} {cs : List CR} {ss : List Sl} : CRok cs ss → CRok (.b i xs :: cs) (.br i (.own xs) :: ss)
  | k {i : Nat} {cs : List CR} {ss : List Sl} : CRok cs ss → CRok (.k i :: cs) (.pk i :: ss)
def CJ (A : List AS) (fs : PFs) (cs : List CR) (B : List AS) : Prop := ∀ ρ, Ag A ρ → ∃ ss ρ', fs ρ = some (ss, ρ') ∧ CRok cs ss ∧ Ag B ρ'
def putA : List CR → List AS → List AS → List AS
  | .b i _ :: cs, a :: bs, A => putA cs bs (A.set i a)
  | _ :: cs, _ :: bs, A => putA cs bs A
  | _, _, A => A
def resA : List CR → List AS → Option (List CR × List AS)
  | [], A => some ([], A)
  | .k i :: cs, A => match A[i]? with
    | some (.own xs) => (resA cs (A.set i .any)).map fun y => (.b i xs :: y.1, y.2)
    | _ => none
  | c :: cs, A => (resA cs A).map fun y => (c :: y.1, y.2)
section
variable {A A1 B : List AS} {f : PF} {fs : PFs} {r : RF} {cs : List CR} {i : Nat} {xs : List PV}
theorem ok_np {A B : List AS} {s : Sl} (h : r.ok A s) (n : r.np) : r.ok B s := by
  cases r with
  | pk _ _ => exact absurd n id
  | _ => exact h
theorem cj_nil : CJ A aNil [] A := fun ρ h => ⟨_, _, rfl, .nil, h⟩
theorem cj_v (d : EJ A f r A1) (n : r.np) (ds : CJ A1 fs cs B) : CJ A (aCons f fs) (.v r :: cs) B := fun ρ hρ => by
  obtain ⟨s, ρ1, e1, o1, g1⟩ := d ρ hρ
  obtain ⟨ss, ρ2, e2, o2, g2⟩ := ds ρ1 g1
  exact ⟨s :: ss, ρ2, stCons e1 e2, .v (ok_np o1 n) n o2, g2⟩
theorem cj_b (h : A[i]? = some (.own xs)) (ds : CJ (A.set i .any) fs cs B) : CJ A (aCons (eBor i) fs) (.b i xs :: cs) B := fun ρ hρ => by
  obtain ⟨t, e, o⟩ := hρ.get h
  rw [show t = .own xs from o] at e
  obtain ⟨ss, ρ2, e2, o2, g2⟩ := ds (ρ.set i .moved) (hρ.set trivial)
  exact ⟨_, ρ2, stCons (stBor e) e2, .b o2, g2⟩
theorem cj_k (h : A[i]? = some (.own xs)) (ds : CJ A fs cs B) : CJ A (aCons (ePk i) fs) (.k i :: cs) B := fun ρ hρ => by
  obtain ⟨t, e, o⟩ := hρ.get h
  rw [show t = .own xs from o] at e
  obtain ⟨ss, ρ2, e2, o2, g2⟩ := ds ρ hρ
  exact ⟨_, ρ2, stCons (stPkO e) e2, .k o2, g2⟩
theorem res_v {s : Sl} (o : r.ok [] s) (n : r.np) : ∀ i, s ≠ .pk i := fun i z => by
  subst z
  cases r with
  | fz p => cases o
  | own p => cases o
  | ls p => rcases o with o | o <;> cases o
  | pk _ _ => exact n
theorem res_core {cs : List CR} {ss : List Sl} (hc : CRok cs ss) : ∀ {A : List AS} {cs' : List CR} {B : List AS} {ρ : List Sl}, resA cs A = some (cs', B) → Ag A ρ → ∃ ss' ρ', resv ss ρ = some (ss', ρ') ∧ CRok cs' ss' ∧ Ag B ρ' := by
  induction hc with
  | nil => intro A cs' B ρ h hρ; cases h; exact ⟨[], ρ, rfl, .nil, hρ⟩
  | @v r s cs ss o n k ih =>
    intro A cs' B ρ h hρ
    unfold resA at h
    rw [Option.map_eq_some_iff] at h
    obtain ⟨⟨a, b⟩, h1, h2⟩ := h
    cases h2
    obtain ⟨ss', ρ', q1, q2, q3⟩ := ih h1 hρ
    refine ⟨s :: ss', ρ', ?_, .v o n q2, q3⟩
    have := res_v o n
    cases s with
    | pk i => exact absurd rfl (this i)
    | _ => show (resv ss ρ).map _ = _; rw [q1]; rfl
  | @b i xs cs ss k ih =>
    intro A cs' B ρ h hρ
    unfold resA at h
    rw [Option.map_eq_some_iff] at h
    obtain ⟨⟨a, b⟩, h1, h2⟩ := h
    cases h2
    obtain ⟨ss', ρ', q1, q2, q3⟩ := ih h1 hρ
    exact ⟨_, ρ', by show (resv ss ρ).map _ = _; rw [q1]; rfl, .b q2, q3⟩
  | @k i cs ss k ih =>
    intro A cs' B ρ h hρ
    unfold resA at h
    split at h
    · rename_i xs e
      rw [Option.map_eq_some_iff] at h
      obtain ⟨⟨a, b⟩, h1, h2⟩ := h
      cases h2
      obtain ⟨t, e2, o⟩ := hρ.get e
      rw [show t = .own xs from o] at e2
      obtain ⟨ss', ρ', q1, q2, q3⟩ := ih (ρ := ρ.set i .moved) h1 (hρ.set trivial)
      refine ⟨_, ρ', ?_, .b q2, q3⟩
      unfold resv
      rw [e2]
      show (resv ss (ρ.set i .moved)).map _ = _
      rw [q1]; rfl
    · cases h
theorem cj_res {cs' : List CR} {B' : List AS} (d : CJ A fs cs B) (h : resA cs B = some (cs', B')) : CJ A (aRes fs) cs' B' := fun ρ hρ => by
  obtain ⟨ss, ρ1, e1, o1, g1⟩ := d ρ hρ
  obtain ⟨ss', ρ', q1, q2, q3⟩ := res_core o1 h g1
  refine ⟨ss', ρ', ?_, q2, q3⟩
  unfold aRes
  rw [e1, Option.bind_some]; exact q1
theorem CRok.arg : ∀ {cs : List CR} {ss : List Sl}, CRok cs ss → Ag (cs.map CR.as) (ss.map tmpOf)
  | _, _, .nil => .nil
  | _, _, .v o n k1 => .cons (RF.tmp o) k1.arg
  | _, _, .b k1 => .cons rfl k1.arg
  | _, _, .k k1 => .cons trivial k1.arg
theorem CRok.put : ∀ {cs : List CR} {ss : List Sl} {bs : List AS} {ss' ρ : List Sl} {A : List AS}, CRok cs ss → Ag bs ss' → Ag A ρ → Ag (putA cs bs A) (putB ss ss' ρ)
  | _, _, bs, ss', ρ, _, .nil, h, hρ => by
    unfold putA putB; exact hρ
  | _, _, _, _, ρ, _, .v (s := s) o n k1, .nil, hρ => by
    unfold putA
    cases s <;> (unfold putB; exact hρ)
  | _, _, _, _, ρ, _, .v (r := r) (s := s) o n k1, .cons h0 h, hρ => by
    have ih := k1.put h hρ
    unfold putA
    cases s with
    | br i t =>
      cases r with
      | fz p => cases o
      | own p => cases o
      | ls p => rcases o with o | o <;> cases o
      | pk _ _ => exact absurd n id
    | _ => exact ih
  | _, _, _, _, ρ, _, .b k1, .nil, hρ => by unfold putA putB; exact hρ
  | _, _, _, _, ρ, _, .b (i := i) k1, .cons h0 h, hρ => by
    have ih := CRok.put k1 h (hρ.set (i := i) h0)
    exact ih
  | _, _, _, _, ρ, _, .k k1, .nil, hρ => by unfold putA putB; exact hρ
  | _, _, _, _, ρ, _, .k k1, .cons h0 h, hρ => by
    have ih := k1.put h hρ
    exact ih
theorem ej_call {F : FP} {as bs : List AS} (d : CJ A fs cs A1) (w : Wk (cs.map CR.as) as) (h : FJ F as r bs) (n : r.np) : EJ A (eCall F fs) r (putA cs bs A1) := fun ρ hρ => by
  obtain ⟨ss, ρ1, e1, o1, g1⟩ := d ρ hρ
  obtain ⟨v, ss', q1, q2, q3⟩ := h _ (o1.arg.wk w)
  exact ⟨v.sl, _, stCall e1 q1, ok_np q2 n, o1.put q3 g1⟩
theorem ej_make {F : FP} {as bs : List AS} {c n : Nat} (d : CJ A fs cs A1) (w : Wk (cs.map CR.as) as) (h : FJ F (.obj c [] :: as) (.fz .non) (.obj c xs :: bs)) (hn : xs.length = n) : EJ A (eMake c n F fs) (.fz (.ins c xs)) (putA cs bs A1) := fun ρ hρ => by
  obtain ⟨ss, ρ1, e1, o1, g1⟩ := d ρ hρ
  obtain ⟨v, ss', q1, q2, q3⟩ := h _ (.cons rfl (o1.arg.wk w))
  have hv : v = .fz .non := by
    cases v with
    | fz p => cases q2; rfl
    | own p => cases q2
  subst hv
  cases q3 with
  | cons z0 z =>
    rw [show _ = Sl.obj c xs from z0] at q1
    exact ⟨_, _, stMake e1 q1 hn, rfl, o1.put z g1⟩
theorem ej_meth {F : FP} {as bs : List AS} {b0 : AS} {c : Nat} {zs : List PV} {fa : PF} {A0 : List AS} (da : EJ A fa (.fz (.ins c zs)) A0) (d : CJ A0 fs cs A1) (w : Wk (cs.map CR.as) as) (h : FJ F (.fz (.ins c zs) :: as) r (b0 :: bs)) (n : r.np) : EJ A (eMeth c F fa fs) r (putA cs bs A1) := fun ρ hρ => by
  obtain ⟨s, ρ0, e0, o0, g0⟩ := da ρ hρ
  rw [show s = .fz (.ins c zs) from o0] at e0
  obtain ⟨ss, ρ1, e1, o1, g1⟩ := d ρ0 g0
  obtain ⟨v, ss', q1, q2, q3⟩ := h _ (.cons rfl (o1.arg.wk w))
  cases q3 with
  | cons z0 z =>
    exact ⟨v.sl, _, stMeth e0 e1 q1, ok_np q2 n, o1.put z g1⟩
/-! defs -/
def prepA : List Bool → List AS → List AS
  | true :: m, a :: as => (match a with | .fz p => .fz p | .own xs => .fz (.lst xs) | .ls xs => .fz (.lst xs) | _ => .any) :: prepA m as
  | false :: m, a :: as => a :: prepA m as
  | _, as => as
def finA : List Bool → List AS → List AS → List AS
  | true :: m, p :: ps, _ :: ρ => p :: finA m ps ρ
  | false :: m, _ :: ps, s :: ρ => s :: finA m ps ρ
  | _, _, _ => []
theorem prep_ag : ∀ {m : List Bool} {as : List AS} {ss : List Sl}, Ag as ss → Ag (prepA m as) (prepP m ss)
  | [], _, _, h => by unfold prepA prepP; exact h
  | true :: m, _, _, .nil => by unfold prepA prepP; exact .nil
  | false :: m, _, _, .nil => by unfold prepA prepP; exact .nil
  | true :: m, a :: as, s :: ss, .cons h0 h => by
    unfold prepA prepP
    refine .cons ?_ (prep_ag h)
    cases a with
    | fz p => rw [show s = .fz p from h0]; rfl
    | own p => rw [show s = .own p from h0]; rfl
    | ls p => rcases h0 with h0 | h0 <;> (rw [h0]; rfl)
    | any => trivial
    | obj _ _ => trivial
  | false :: m, _, _, .cons h0 h => by
    unfold prepA prepP
    exact .cons h0 (prep_ag h)
theorem fin_ag : ∀ {m : List Bool} {as : List AS} {ss : List Sl} {B : List AS} {ρ : List Sl}, Ag as ss → Ag B ρ → Ag (finA m as B) (finP m ss ρ)
  | [], _, _, _, _, _, _ => by unfold finA finP; exact .nil
  | true :: m, _, _, _, _, .nil, _ => by unfold finA finP; exact .nil
  | false :: m, _, _, _, _, .nil, _ => by unfold finA finP; exact .nil
  | true :: m, _, _, _, _, .cons _ _, .nil => by unfold finA finP; exact .nil
  | false :: m, _, _, _, _, .cons _ _, .nil => by unfold finA finP; exact .nil
  | true :: m, _, _, _, _, .cons h0 h, .cons k0 k => by
    unfold finA finP
    exact .cons h0 (fin_ag h k)
  | false :: m, _, _, _, _, .cons h0 h, .cons k0 k => by
    unfold finA finP
    exact .cons k0 (fin_ag h k)
theorem rep_ag : ∀ {n : Nat}, Ag (List.replicate n .any) (List.replicate n .un)
  | 0 => .nil
  | n + 1 => .cons trivial rep_ag
theorem fj_fn {R : Type} {vR : R → RF} {AR : R → List AS} {m : Option R} {o : R} {N : Nat} {rs : List Bool} {body : PSF} {as bs : List AS} (hm : m = some o) (h : SJ (prepA rs as ++ List.replicate (N - rs.length) .any) body m (eFn vR AR)) (w : Wk (finA rs (prepA rs as) (AR o)) bs) : FJ (fnF N rs body) as (vR o) bs := fun ss hs => by
  have p1 := prep_ag (m := rs) hs
  obtain ⟨fl, ρ', e, q⟩ := h o hm _ (p1.app rep_ag)
  rcases q with ⟨v, rfl, q1, q2⟩ | ⟨rfl, q1, q2⟩
  · exact ⟨v, _, stFn e, q1, (fin_ag p1 q2).wk w⟩
  · exact ⟨.fz .non, _, stFnN e, by rw [q1]; rfl, (fin_ag p1 q2).wk w⟩
end
end PL
set_option Elab.async false
set_option linter.all false
set_option maxRecDepth 100000
set_option maxHeartbeats 4000000
/-! PL8: operations of the typed layer. -/
namespace PL
open PySem
section
variable {A A1 A2 B : List AS} {f g : PF} {t u : PT'} {a b : Bool} {r : RF} {p q : PV} {i : Nat}
theorem ej_ifCT (d : TJ A t true A1) (d1 : EJ A1 f r B) : EJ A (eIf t f g) r B := fun ρ hρ => by
  obtain ⟨ρ1, e1, g1⟩ := d ρ hρ
  obtain ⟨s, ρ2, e2, g2⟩ := d1 ρ1 g1
  exact ⟨s, ρ2, stIfET e1 rfl e2, g2⟩
theorem ej_ifCN (d : TJ A t false A1) (d1 : EJ A1 g r B) : EJ A (eIf t f g) r B := fun ρ hρ => by
  obtain ⟨ρ1, e1, g1⟩ := d ρ hρ
  obtain ⟨s, ρ2, e2, g2⟩ := d1 ρ1 g1
  exact ⟨s, ρ2, stIfEN e1 rfl e2, g2⟩
theorem tj_andC (d : TJ A t false A1) : TJ A (tAndF t u) false A1 := fun ρ hρ => by
  obtain ⟨ρ1, e1, g1⟩ := d ρ hρ
  exact ⟨ρ1, stTAndN e1 rfl, g1⟩
theorem tj_orC (d : TJ A t true A1) : TJ A (tOrF t u) true A1 := fun ρ hρ => by
  obtain ⟨ρ1, e1, g1⟩ := d ρ hρ
  exact ⟨ρ1, stTOrT e1 rfl, g1⟩
theorem tj_andP (d : TJ A t true A1) (d2 : TJ A1 u b A2) : TJ A (tAndF t u) b A2 := fun ρ hρ => by
  obtain ⟨ρ1, e1, g1⟩ := d ρ hρ
  obtain ⟨ρ2, e2, g2⟩ := d2 ρ1 g1
  exact ⟨ρ2, stTAndT e1 rfl e2, g2⟩
theorem tj_orP (d : TJ A t false A1) (d2 : TJ A1 u b A2) : TJ A (tOrF t u) b A2 := fun ρ hρ => by
  obtain ⟨ρ1, e1, g1⟩ := d ρ hρ
  obtain ⟨ρ2, e2, g2⟩ := d2 ρ1 g1
  exact ⟨ρ2, stTOrN e1 rfl e2, g2⟩
theorem ej_andC (d : EJ A f (.fz (.bl false)) A1) : EJ A (eAndF f g) (.fz (.bl false)) A1 := fun ρ hρ => by
  obtain ⟨s, ρ1, e1, o1, g1⟩ := d ρ hρ
  rw [show s = .fz (.bl false) from o1] at e1
  exact ⟨_, ρ1, stAndN e1 rfl, rfl, g1⟩
theorem ej_orC (d : EJ A f (.fz (.bl true)) A1) : EJ A (eOrF f g) (.fz (.bl true)) A1 := fun ρ hρ => by
  obtain ⟨s, ρ1, e1, o1, g1⟩ := d ρ hρ
  rw [show s = .fz (.bl true) from o1] at e1
  exact ⟨_, ρ1, stOrT e1 rfl, rfl, g1⟩
theorem ej_andP (d : EJ A f (.fz (.bl true)) A1) (d2 : EJ A1 g r A2) : EJ A (eAndF f g) r A2 := fun ρ hρ => by
  obtain ⟨s, ρ1, e1, o1, g1⟩ := d ρ hρ
  rw [show s = .fz (.bl true) from o1] at e1
  obtain ⟨s, ρ2, e2, g2⟩ := d2 ρ1 g1
  exact ⟨s, ρ2, stAndT e1 rfl e2, g2⟩
theorem ej_orP (d : EJ A f (.fz (.bl false)) A1) (d2 : EJ A1 g r A2) : EJ A (eOrF f g) r A2 := fun ρ hρ => by
  obtain ⟨s, ρ1, e1, o1, g1⟩ := d ρ hρ
  rw [show s = .fz (.bl false) from o1] at e1
  obtain ⟨s, ρ2, e2, g2⟩ := d2 ρ1 g1
  exact ⟨s, ρ2, stOrN e1 rfl e2, g2⟩
end
section
variable {A A1 A2 A3 : List AS} {f g h' : PF} {r r1 r2 r3 : RF} {w : PV} {xs : List PV}
theorem ej_binF {op : PV → PV → Option Vl} (d1 : EJ A f r1 A1) (d2 : EJ A1 g r2 A2) (k : r1.kp A1 A2) (h : op r1.pv r2.pv = some (.fz w)) : EJ A (eBin op f g) (.fz w) A2 := ej_bin d1 d2 k h
theorem ej_binO {op : PV → PV → Option Vl} (d1 : EJ A f r1 A1) (d2 : EJ A1 g r2 A2) (k : r1.kp A1 A2) (h : op r1.pv r2.pv = some (.own xs)) : EJ A (eBin op f g) (.own xs) A2 := ej_bin d1 d2 k h
theorem ej_n1F {op : List PV → Option Vl} (d : EJ A f r A1) (h : op [r.pv] = some (.fz w)) : EJ A (eNary op (aCons f aNil)) (.fz w) A1 := ej_n1 d h
theorem ej_n1O {op : List PV → Option Vl} (d : EJ A f r A1) (h : op [r.pv] = some (.own xs)) : EJ A (eNary op (aCons f aNil)) (.own xs) A1 := ej_n1 d h
theorem ej_n2F {op : List PV → Option Vl} (d1 : EJ A f r1 A1) (d2 : EJ A1 g r2 A2) (k : r1.kp A1 A2) (h : op [r1.pv, r2.pv] = some (.fz w)) : EJ A (eNary op (aCons f (aCons g aNil))) (.fz w) A2 := ej_n2 d1 d2 k h
theorem ej_n3F {op : List PV → Option Vl} (d1 : EJ A f r1 A1) (d2 : EJ A1 g r2 A2) (d3 : EJ A2 h' r3 A3) (k : r1.kp A1 A3) (k2 : r2.kp A2 A3) (h : op [r1.pv, r2.pv, r3.pv] = some (.fz w)) : EJ A (eNary op (aCons f (aCons g (aCons h' aNil)))) (.fz w) A3 := ej_n3 d1 d2 d3 k k2 h
theorem ej_slF {lo hi : PFo} {l h : Option Int} (d1 : EJ A f r A1) (d2 : OJ A1 lo l A2) (d3 : OJ A2 hi h A3) (k : r.kp A1 A3) (ho : opSl r.pv l h = some (.fz w)) : EJ A (eSl f lo hi) (.fz w) A3 := ej_sl d1 d2 d3 k ho
theorem ej_slO {lo hi : PFo} {l h : Option Int} (d1 : EJ A f r A1) (d2 : OJ A1 lo l A2) (d3 : OJ A2 hi h A3) (k : r.kp A1 A3) (ho : opSl r.pv l h = some (.own xs)) : EJ A (eSl f lo hi) (.own xs) A3 := ej_sl d1 d2 d3 k ho
theorem ej_notT (d : EJ A f (.fz (.bl true)) A1) : EJ A (eNotF f) (.fz (.bl false)) A1 := ej_not d
theorem ej_notC (d : EJ A f (.fz (.bl false)) A1) : EJ A (eNotF f) (.fz (.bl true)) A1 := ej_not d
theorem tj_notT {t : PT'} (d : TJ A t true A1) : TJ A (tNotF t) false A1 := tj_not d
theorem tj_notC {t : PT'} (d : TJ A t false A1) : TJ A (tNotF t) true A1 := tj_not d
end
section
variable {A A1 A2 B : List AS} {f g : PF} {t u : PT'} {a b : Bool} {r : RF} {p q : PV} {i : Nat}
def appO {α : Type} (xs : List α) (x : α) : Option (List α) := if xs.length < lineN then some (xs ++ [x]) else none
def catO {α : Type} (xs ys : List α) : Option (List α) := if xs.length + ys.length ≤ lineN then some (xs ++ ys) else none
def popO {α : Type} (xs : List α) : Option (α × List α) := (xs[xs.length - 1]?).map fun x => (x, xs.dropLast)
theorem ej_appT {α : Type} {e : α → PV} {xs zs : List α} {x : α} {ys : List PV} (d : EJ A f r A1) (n : r.np) (he : r.pv = e x) (h0 : A[i]? = some (.own ys)) (h : A1[i]? = some (.own (xs.map e))) (hl : appO xs x = some zs) : EJ A (eAppend i f) (.fz .non) (A1.set i (.own (zs.map e))) := by
  unfold appO at hl
  split at hl
  · rename_i c
    cases hl
    have := ej_app d n h0 h (by rw [List.length_map]; exact c)
    rw [he] at this
    rw [List.map_append]; exact this
  · cases hl
theorem ej_extT {α : Type} {e : α → PV} {xs zs ws : List α} {ys : List PV} (d : EJ A f r A1) (he : r.pv = .lst (ws.map e)) (h0 : A[i]? = some (.own ys)) (h : A1[i]? = some (.own (xs.map e))) (hl : catO xs ws = some zs) : EJ A (eExtend i f) (.fz .non) (A1.set i (.own (zs.map e))) := by
  unfold catO at hl
  split at hl
  · rename_i c
    cases hl
    have := ej_ext d he h0 h (by rw [List.length_map, List.length_map]; exact c)
    rw [List.map_append]; exact this
  · cases hl
theorem ej_popT {α : Type} {e : α → PV} {xs : List α} {o : α × List α} (h : A[i]? = some (.own (xs.map e))) (hp : popO xs = some o) : EJ A (ePop i) (.fz (e o.1)) (A.set i (.own (o.2.map e))) := by
  unfold popO at hp
  rw [Option.map_eq_some_iff] at hp
  obtain ⟨x, h1, rfl⟩ := hp
  have := ej_pop (p := e x) h (by rw [List.length_map, List.getElem?_map, h1]; rfl)
  rw [List.map_dropLast]; exact this
end
/-! equal data -/
structure Eqv {α : Type} [DecidableEq α] (k : Nat) (e : α → PV) : Prop where
  dat : ∀ n a, k ≤ n → datN n (e a) = true
  eq : ∀ a b, eqP (e a) (e b) = decide (a = b)
theorem eqv_int : Eqv 0 PV.int := ⟨fun n a _ => by cases n <;> simp [datN], fun a b => by rw [eqP]; rfl⟩
theorem eqv_bl : Eqv 0 PV.bl := ⟨fun n a _ => by cases n <;> simp [datN], fun a b => by cases a <;> cases b <;> simp [eqP]⟩
section
variable {α β γ δ : Type} [DecidableEq α] [DecidableEq β] [DecidableEq γ] [DecidableEq δ] {k l m o : Nat} {e : α → PV} {e2 : β → PV} {e3 : γ → PV} {e4 : δ → PV}
theorem eqP_nl {p : PV} (h : isNon p = false) : eqP .non p = false := by
  cases p <;> first | (simp [isNon] at h; done) | simp [eqP]
theorem eqP_nr {p : PV} (h : isNon p = false) : eqP p .non = false := by
  cases p <;> first | (simp [isNon] at h; done) | simp [eqP]
theorem eqv_O (hn : ∀ a, isNon (e a) = false) (h : Eqv k e) : Eqv k (eO e) := ⟨fun n a hk => by
  cases a with
  | none => cases n <;> simp [datN]
  | some a => exact h.dat n a hk, fun a b => by
  cases a with
  | none =>
    cases b with
    | none => simp [eqP]
    | some b => show eqP .non (e b) = _; rw [eqP_nl (hn b)]; simp
  | some a =>
    cases b with
    | none => show eqP (e a) .non = _; rw [eqP_nr (hn a)]; simp
    | some b => show eqP (e a) (e b) = _; rw [h.eq]; simp⟩
theorem eqPs_map (h : Eqv k e) : ∀ xs ys : List α, eqPs (xs.map e) (ys.map e) = decide (xs = ys)
  | [], [] => by simp [eqPs]
  | [], _ :: _ => by simp [eqPs]
  | _ :: _, [] => by simp [eqPs]
  | x :: xs, y :: ys => by
    rw [List.map_cons, List.map_cons, eqPs, h.eq, eqPs_map h xs ys]
    simp
theorem datNs_map (h : Eqv k e) {n : Nat} (hk : k ≤ n) (xs : List α) : datNs n (xs.map e) = true := by
  rw [datNs_all, List.all_eq_true]
  intro x hx
  obtain ⟨y, _, rfl⟩ := List.mem_map.mp hx
  exact h.dat n y hk
theorem eqv_T (h : Eqv k e) : Eqv (k + 1) (eT e) := ⟨fun n a hk => by
  cases n with
  | zero => omega
  | succ n => rw [datN]; exact datNs_map h (by omega) a, fun a b => by rw [eqP, eqPs_map h]⟩
theorem eqv_L (h : Eqv k e) : Eqv (k + 1) (eL e) := ⟨fun n a hk => by
  cases n with
  | zero => omega
  | succ n => rw [datN]; exact datNs_map h (by omega) a, fun a b => by rw [eqP, eqPs_map h]⟩
theorem eqv_P1 (h : Eqv k e) : Eqv (k + 1) (eP1 e) := ⟨fun n a hk => by
  cases n with
  | zero => omega
  | succ n => rw [datN, datNs, datNs, h.dat n _ (by omega)]; rfl, fun a b => by rw [eqP, eqPs, eqPs, h.eq]; simp⟩
theorem eqv_P2 (h : Eqv k e) (h2 : Eqv l e2) : Eqv (max k l + 1) (eP2 e e2) := ⟨fun n a hk => by
  cases n with
  | zero => omega
  | succ n => rw [datN, datNs, datNs, datNs, h.dat n _ (by omega), h2.dat n _ (by omega)]; rfl, fun a b => by
  obtain ⟨a1, a2⟩ := a
  obtain ⟨b1, b2⟩ := b
  rw [eqP, eqPs, eqPs, eqPs, h.eq, h2.eq]
  simp [Prod.ext_iff]⟩
theorem eqv_P3 (h : Eqv k e) (h2 : Eqv l e2) (h3 : Eqv m e3) : Eqv (max k (max l m) + 1) (eP3 e e2 e3) := ⟨fun n a hk => by
  cases n with
  | zero => omega
  | succ n => rw [datN, datNs, datNs, datNs, datNs, h.dat n _ (by omega), h2.dat n _ (by omega), h3.dat n _ (by omega)]; rfl, fun a b => by
  obtain ⟨a1, a2, a3⟩ := a
  obtain ⟨b1, b2, b3⟩ := b
  rw [eqP, eqPs, eqPs, eqPs, eqPs, h.eq, h2.eq, h3.eq]
  simp [Prod.ext_iff]⟩
theorem eqv_P4 (h : Eqv k e) (h2 : Eqv l e2) (h3 : Eqv m e3) (h4 : Eqv o e4) : Eqv (max k (max l (max m o)) + 1) (eP4 e e2 e3 e4) := ⟨fun n a hk => by
  cases n with
  | zero => omega
  | succ n => rw [datN, datNs, datNs, datNs, datNs, datNs, h.dat n _ (by omega), h2.dat n _ (by omega), h3.dat n _ (by omega), h4.dat n _ (by omega)]; rfl, fun a b => by
  obtain ⟨a1, a2, a3, a4⟩ := a
  obtain ⟨b1, b2, b3, b4⟩ := b
  rw [eqP, eqPs, eqPs, eqPs, eqPs, eqPs, h.eq, h2.eq, h3.eq, h4.eq]
  simp [Prod.ext_iff]⟩
theorem opEq_q (h : Eqv k e) (hk : Nat.ble k 60 = true) {a b : α} : opEq (e a) (e b) = some (.fz (.bl (decide (a = b)))) := by
  have := Nat.le_of_ble_eq_true hk
  unfold opEq
  rw [h.dat 60 a this, h.dat 60 b this, if_pos ⟨rfl, rfl⟩, h.eq]
theorem opNe_q (h : Eqv k e) (hk : Nat.ble k 60 = true) {a b : α} : opNe (e a) (e b) = some (.fz (.bl (!decide (a = b)))) := by
  have := Nat.le_of_ble_eq_true hk
  unfold opNe
  rw [h.dat 60 a this, h.dat 60 b this, if_pos ⟨rfl, rfl⟩, h.eq]
theorem any_in (h : Eqv k e) (a : α) : ∀ xs : List α, ((xs.map e).any fun z => eqP z (e a)) = decide (a ∈ xs)
  | [] => by simp
  | x :: xs => by
    rw [List.map_cons, List.any_cons, any_in h a xs, h.eq]
    simp only [List.mem_cons, eq_comm (a := x)]
    rw [Bool.decide_or]
theorem inP_L (h : Eqv k e) (hk : Nat.ble k 59 = true) {a : α} {xs : List α} : inP (e a) (eL e xs) = some (decide (a ∈ xs)) := by
  have := Nat.le_of_ble_eq_true hk
  show (if datN 60 (e a) = true ∧ datNs 59 (xs.map e) = true then _ else none) = _
  rw [h.dat 60 a (by omega), datNs_map h (by omega) xs, if_pos ⟨rfl, rfl⟩, any_in h]
theorem opIn_L (h : Eqv k e) (hk : Nat.ble k 59 = true) {a : α} {xs : List α} : opIn (e a) (eL e xs) = some (.fz (.bl (decide (a ∈ xs)))) := by
  unfold opIn
  rw [inP_L h hk]; rfl
theorem opNotIn_L (h : Eqv k e) (hk : Nat.ble k 59 = true) {a : α} {xs : List α} : opNotIn (e a) (eL e xs) = some (.fz (.bl (!decide (a ∈ xs)))) := by
  unfold opNotIn
  rw [inP_L h hk]; rfl
theorem inP_T (h : Eqv k e) (hf : ∀ a, flatP (e a) = true) {a : α} {xs : List α} : inP (e a) (eT e xs) = some (decide (a ∈ xs)) := by
  show (if flatP (e a) = true ∧ (xs.map e).all flatP = true then _ else none) = _
  rw [hf a, if_pos ⟨rfl, by rw [List.all_eq_true]; intro x hx; obtain ⟨y, _, rfl⟩ := List.mem_map.mp hx; exact hf y⟩, any_in h]
theorem opIn_T (h : Eqv k e) (hf : ∀ a, flatP (e a) = true) {a : α} {xs : List α} : opIn (e a) (eT e xs) = some (.fz (.bl (decide (a ∈ xs)))) := by
  unfold opIn
  rw [inP_T h hf]; rfl
theorem opNotIn_T (h : Eqv k e) (hf : ∀ a, flatP (e a) = true) {a : α} {xs : List α} : opNotIn (e a) (eT e xs) = some (.fz (.bl (!decide (a ∈ xs)))) := by
  unfold opNotIn
  rw [inP_T h hf]; rfl
theorem flat_O (h : ∀ a, flatP (e a) = true) : ∀ a, flatP (eO e a) = true := fun a => by
  cases a with
  | none => rfl
  | some a => exact h a
/-- the first place of an item -/
def idxO (xs : List α) (x : α) : Option Nat := match xs with
  | [] => none
  | y :: r => if y = x then some 0 else (idxO r x).map (· + 1)
theorem idxP_map (h : Eqv k e) (x : α) : ∀ xs : List α, idxP (e x) (xs.map e) = idxO xs x
  | [] => rfl
  | y :: xs => by
    rw [List.map_cons, idxP, idxO, h.eq, idxP_map h x xs]
    simp only [decide_eq_true_eq]
theorem idx_q (h : Eqv k e) (hk : Nat.ble k 59 = true) (hk2 : Nat.ble k 60 = true) {xs : List α} {x : α} {j : Nat} (hj : idxO xs x = some j) : (if datN 60 (.lst (xs.map e)) = true ∧ datN 60 (e x) = true then idxP (e x) (xs.map e) else none) = some j := by
  have h1 := Nat.le_of_ble_eq_true hk
  rw [datN, datNs_map h h1, h.dat 60 x (by omega), if_pos ⟨rfl, rfl⟩, idxP_map h, hj]
end
def eqO (p q : PV) : Option Bool := if datN 60 p = true ∧ datN 60 q = true then some (eqP p q) else none
theorem opEq_O {p q : PV} {b : Bool} (h : eqO p q = some b) : opEq p q = some (.fz (.bl b)) := by
  unfold eqO at h
  unfold opEq
  split at h
  · rename_i c; cases h; rw [if_pos c]
  · cases h
theorem opNe_O {p q : PV} {b : Bool} (h : eqO p q = some b) : opNe p q = some (.fz (.bl (!b))) := by
  unfold eqO at h
  unfold opNe
  split at h
  · rename_i c; cases h; rw [if_pos c]
  · cases h
theorem opIn_O {p q : PV} {b : Bool} (h : inP p q = some b) : opIn p q = some (.fz (.bl b)) := by
  unfold opIn; rw [h]; rfl
theorem opNotIn_O {p q : PV} {b : Bool} (h : inP p q = some b) : opNotIn p q = some (.fz (.bl (!b))) := by
  unfold opNotIn; rw [h]; rfl
abbrev inO := inP
def asInt : PV → Option Int
  | .int i => some i
  | _ => none
def asBl : PV → Option Bool
  | .bl i => some i
  | _ => none
def asTup : PV → Option (List PV)
  | .tup i => some i
  | _ => none
theorem asInt_eq {p : PV} {i : Int} (h : asInt p = some i) : p = .int i := by cases p <;> cases h; rfl
theorem asBl_eq {p : PV} {i : Bool} (h : asBl p = some i) : p = .bl i := by cases p <;> cases h; rfl
theorem asTup_eq {p : PV} {i : List PV} (h : asTup p = some i) : p = eT eA i := by cases p <;> cases h; simp
def asIs : PV → Option (List Int)
  | .tup xs => intsOf xs
  | _ => none
theorem asIs_eq {p : PV} {i : List Int} (h : asIs p = some i) : p = eT PV.int i := by
  cases p with
  | tup xs => show PV.tup xs = PV.tup _; rw [intsOf_eq h]
  | _ => cases h
def asT2 : PV → Option (PV × PV)
  | .tup [a, b] => some (a, b)
  | _ => none
theorem asT2_eq {p : PV} {i : PV × PV} (h : asT2 p = some i) : p = eP2 eA eA i := by
  unfold asT2 at h
  split at h
  · cases h; rfl
  · cases h
def asT3 : PV → Option (PV × PV × PV)
  | .tup [a, b, c] => some (a, b, c)
  | _ => none
theorem asT3_eq {p : PV} {i : PV × PV × PV} (h : asT3 p = some i) : p = eP3 eA eA eA i := by
  unfold asT3 at h
  split at h
  · cases h; rfl
  · cases h
def ixA : PV → Int → Option PV
  | .tup xs, i => L2.atI xs i
  | .lst xs, i => L2.atI xs i
  | _, _ => none
theorem opIx_A {p q : PV} {i : Int} (h : ixA p i = some q) : opIx p (.int i) = some (.fz q) := by
  cases p with
  | tup xs => exact opIx_t h
  | lst xs => exact opIx_l h
  | _ => cases h
def lenO : PV → Option Int
  | .tup xs => some xs.length
  | .lst xs => some xs.length
  | _ => none
theorem clLen_O {p : PV} {i : Int} (h : lenO p = some i) : clLen [p] = some (.fz (.int i)) := by cases p <;> cases h <;> rfl
section
variable {α : Type} {e : α → PV} {xs ys zs : List α} {x : α}
theorem opIs_O (h : ∀ a, isNon (e a) = false) {o : Option α} : opIs (eO e o) .non = some (.fz (.bl o.isNone)) := by
  cases o with
  | none => rfl
  | some a => show some _ = _; rw [show isNon (eO e (some a)) = false from h a]; rfl
theorem opIsNot_O (h : ∀ a, isNon (e a) = false) {o : Option α} : opIsNot (eO e o) .non = some (.fz (.bl o.isSome)) := by
  cases o with
  | none => rfl
  | some a => show some _ = _; rw [show isNon (eO e (some a)) = false from h a]; rfl
theorem opAdd_T (h : catO xs ys = some zs) : opAdd (eT e xs) (eT e ys) = some (.fz (eT e zs)) := by
  unfold catO at h
  split at h
  · rename_i c
    cases h
    show (if (xs.map e).length + (ys.map e).length ≤ lineN then _ else none) = _
    rw [List.length_map, List.length_map, if_pos c, ← List.map_append]
  · cases h
theorem opAdd_L (h : catO xs ys = some zs) : opAdd (eL e xs) (eL e ys) = some (.own (zs.map e)) := by
  unfold catO at h
  split at h
  · rename_i c
    cases h
    show (if (xs.map e).length + (ys.map e).length ≤ lineN then _ else none) = _
    rw [List.length_map, List.length_map, if_pos c, ← List.map_append]
  · cases h
def repO (xs : List α) (k : Int) : Option (List α) := if k < 2 ^ 63 ∧ -(2 ^ 63) ≤ k ∧ xs.length * k.toNat ≤ lineN then some (List.replicate k.toNat xs).flatten else none
def repT (xs : List α) (k : Int) : Option (List α) := if 2 ≤ k ∧ k ≤ 1000 ∧ xs.length ≤ 1000 ∧ xs.isEmpty = false then some (List.replicate k.toNat xs).flatten else none
theorem flatten_map {n : Nat} : (List.replicate n (xs.map e)).flatten = ((List.replicate n xs).flatten).map e := by
  rw [List.map_flatten, List.map_replicate]
theorem opMul_L {k : Int} (h : repO xs k = some zs) : opMul (eL e xs) (.int k) = some (.own (zs.map e)) := by
  unfold repO at h
  split at h
  · rename_i c
    cases h
    show (if k < 2 ^ 63 ∧ -(2 ^ 63) ≤ k ∧ (xs.map e).length * k.toNat ≤ lineN then _ else none) = _
    rw [List.length_map, if_pos c, flatten_map]
  · cases h
theorem opMul_T {k : Int} (h : repT xs k = some zs) : opMul (eT e xs) (.int k) = some (.fz (eT e zs)) := by
  unfold repT at h
  split at h
  · rename_i c
    cases h
    show (if 2 ≤ k ∧ k ≤ 1000 ∧ (xs.map e).length ≤ 1000 ∧ (xs.map e).isEmpty = false then _ else none) = _
    rw [List.length_map, List.isEmpty_map, if_pos c, flatten_map]
  · cases h
def mulO (i j : Int) : Option Int := if mulOk i j = true then some (i * j) else none
def modO (i j : Int) : Option Int := if 0 < j then some (i % j) else none
def divO (i j : Int) : Option Int := if 0 < j ∧ j.natAbs.log2 < 9000 then some (i / j) else none
def powO (i j : Int) : Option Int := if 0 ≤ j ∧ j ≤ 1000000 ∧ i.natAbs < 2 ^ 64 then some (i ^ j.toNat) else none
theorem opMul_i {i j k : Int} (h : mulO i j = some k) : opMul (.int i) (.int j) = some (.fz (.int k)) := by
  unfold mulO at h
  split at h
  · rename_i c; cases h; exact if_pos c
  · cases h
theorem opMod_q {i j k : Int} (h : modO i j = some k) : opMod (.int i) (.int j) = some (.fz (.int k)) := by
  unfold modO at h
  split at h
  · rename_i c; cases h; exact if_pos c
  · cases h
theorem opFdiv_q {i j k : Int} (h : divO i j = some k) : opFdiv (.int i) (.int j) = some (.fz (.int k)) := by
  unfold divO at h
  split at h
  · rename_i c; cases h; exact if_pos c
  · cases h
theorem opPow_q {i j k : Int} (h : powO i j = some k) : opPow (.int i) (.int j) = some (.fz (.int k)) := by
  unfold powO at h
  split at h
  · rename_i c; cases h; exact if_pos c
  · cases h
theorem atI_q {i : Int} (h : L2.atI xs i = some x) : L2.atI (xs.map e) i = some (e x) := by
  unfold L2.atI at h ⊢
  rw [Option.bind_eq_some_iff] at h
  obtain ⟨j, h1, h2⟩ := h
  rw [List.length_map, h1, Option.bind_some, List.getElem?_map, h2]; rfl
theorem opIx_T {i : Int} (h : L2.atI xs i = some x) : opIx (eT e xs) (.int i) = some (.fz (e x)) := opIx_t (atI_q h)
theorem opIx_L {i : Int} (h : L2.atI xs i = some x) : opIx (eL e xs) (.int i) = some (.fz (e x)) := opIx_l (atI_q h)
theorem cutP_q {lo hi : Option Int} : cutP (xs.map e) lo hi = (cutP xs lo hi).map e := by
  unfold cutP
  rw [List.length_map, List.map_take, List.map_drop]
theorem opSl_T {lo hi : Option Int} : opSl (eT e xs) lo hi = some (.fz (eT e (cutP xs lo hi))) := by
  show some (Vl.fz (.tup (cutP (xs.map e) lo hi))) = _
  rw [cutP_q]
theorem opSl_L {lo hi : Option Int} : opSl (eL e xs) lo hi = some (.own ((cutP xs lo hi).map e)) := by
  show some (Vl.own (cutP (xs.map e) lo hi)) = _
  rw [cutP_q]
theorem clLen_T : clLen [eT e xs] = some (.fz (.int xs.length)) := by
  show some (Vl.fz (.int (xs.map e).length)) = _
  rw [List.length_map]
theorem clLen_L : clLen [eL e xs] = some (.fz (.int xs.length)) := by
  show some (Vl.fz (.int (xs.map e).length)) = _
  rw [List.length_map]
def absQ (i : Int) : Int := if i < 0 then -i else i
def maxO (ns : List Int) : Option Int := if ns.isEmpty = true then none else some (maxL ns)
def minO (ns : List Int) : Option Int := if ns.isEmpty = true then none else some (minL ns)
theorem clMax_L {ns : List Int} {m : Int} (h : maxO ns = some m) : clMax2 [eL PV.int ns] = some (.fz (.int m)) := by
  unfold maxO at h
  split at h
  · cases h
  · rename_i c
    cases h
    exact clMax2_l (intsOf_map ns) (fun z => c (by rw [z]; rfl))
theorem clMin_L {ns : List Int} {m : Int} (h : minO ns = some m) : clMin2 [eL PV.int ns] = some (.fz (.int m)) := by
  unfold minO at h
  split at h
  · cases h
  · rename_i c
    cases h
    exact clMin2_l (intsOf_map ns) (fun z => c (by rw [z]; rfl))
theorem clMax_T {ns : List Int} {m : Int} (h : maxO ns = some m) : clMax2 [eT PV.int ns] = some (.fz (.int m)) := by
  unfold maxO at h
  split at h
  · cases h
  · rename_i c
    cases h
    show (intsOf (ns.map PV.int)).bind _ = _
    rw [intsOf_map, Option.bind_some, if_neg (by simpa using c)]
theorem clMin_T {ns : List Int} {m : Int} (h : minO ns = some m) : clMin2 [eT PV.int ns] = some (.fz (.int m)) := by
  unfold minO at h
  split at h
  · cases h
  · rename_i c
    cases h
    show (intsOf (ns.map PV.int)).bind _ = _
    rw [intsOf_map, Option.bind_some, if_neg (by simpa using c)]
theorem clSum_L {ns : List Int} : clSum2 [eL PV.int ns] = some (.fz (.int ns.sum)) := clSum2_l (intsOf_map ns)
theorem clSum_T {ns : List Int} : clSum2 [eT PV.int ns] = some (.fz (.int ns.sum)) := clSum2_t (intsOf_map ns)
theorem clAll_q {bs : List Bool} : clAll [eL PV.bl bs] = some (.fz (.bl (bs.all id))) := by
  unfold clAll
  show (blsOf (bs.map PV.bl)).map _ = _
  rw [blsOf_map]; rfl
theorem clAny_q {bs : List Bool} : clAny [eL PV.bl bs] = some (.fz (.bl (bs.any id))) := by
  unfold clAny
  show (blsOf (bs.map PV.bl)).map _ = _
  rw [blsOf_map]; rfl
def sortO (e : α → PV) (xs : List α) : Option (List α) := if sortB (xs.map e) = true then some (xs.mergeSort fun a b => leP (e a) (e b)) else none
theorem clSorted_q (h : sortO e xs = some zs) : clSorted [eL e xs] = some (.own (zs.map e)) := by
  unfold sortO at h
  split at h
  · rename_i c
    cases h
    show (if sortB (xs.map e) = true then _ else none) = _
    rw [if_pos c]
    rw [← List.map_mergeSort (r := fun a b => leP (e a) (e b)) (s := leP) (f := e) (fun _ _ _ _ => rfl)]
  · cases h
def isiO (p : PV) (zs : List Ty) : Option Bool := if zs.contains .non then none else (tyP p).map fun s => zs.any fun t => subTy s t
theorem isTy_some {p : PV} {t : Ty} {s : Ty} (h : tyP p = some s) (n : t ≠ .non) : isTy p t = some (subTy s t) := by
  unfold isTy
  rw [if_neg n, h]; rfl
theorem isAny_some {p : PV} {s : Ty} (h : tyP p = some s) : ∀ zs : List Ty, zs.contains .non = false → isAny p (zs.map PV.ty) = some (zs.any fun t => subTy s t)
  | [], _ => rfl
  | t :: zs, hn => by
    rw [List.contains_cons, Bool.or_eq_false_iff] at hn
    rw [List.map_cons, isAny, isTy_some h (fun z => by rw [z] at hn; simp at hn), isAny_some h zs hn.2]; rfl
theorem isi_A1 {p : PV} {t : Ty} {b : Bool} (h : isiO p [t] = some b) : clIsi [p, .ty t] = some (.fz (.bl b)) := by
  unfold isiO at h
  split at h
  · cases h
  · rename_i c
    rw [Option.map_eq_some_iff] at h
    obtain ⟨s, h1, rfl⟩ := h
    show (isTy p t).map _ = _
    rw [isTy_some h1 (fun z => by rw [z] at c; exact c rfl)]
    simp
theorem isi_AT {p : PV} {t : Ty} {ts : List Ty} {b : Bool} (h : isiO p (t :: ts) = some b) : clIsi [p, .tup ((t :: ts).map PV.ty)] = some (.fz (.bl b)) := by
  unfold isiO at h
  split at h
  · cases h
  · rename_i c
    rw [Option.map_eq_some_iff] at h
    obtain ⟨s, h1, rfl⟩ := h
    show (isAny p ((t :: ts).map PV.ty)).map _ = _
    rw [isAny_some h1 _ (by simpa using c)]; rfl
theorem isi_O {z : PV} {b : Bool} {o : Option α} (h : ∀ a, clIsi [e a, z] = some (.fz (.bl true))) (hn : clIsi [.non, z] = some (.fz (.bl false))) : clIsi [eO e o, z] = some (.fz (.bl o.isSome)) := by
  cases o with
  | none => exact hn
  | some a => exact h a
theorem isi_OF {z : PV} {o : Option α} (h : ∀ a, clIsi [e a, z] = some (.fz (.bl false))) (hn : clIsi [.non, z] = some (.fz (.bl false))) : clIsi [eO e o, z] = some (.fz (.bl false)) := by
  cases o with
  | none => exact hn
  | some a => exact h a
end
abbrev eScr (ns : List Int) : PV := .scr (Ints ns)
/-- what a def answers, told by its raw function -/
def extB (F : FP) (as : List Sl) : Option Bool := match F as with
  | some (.fz (.bl b), bs) => if bs.length = as.length then some b else none
  | _ => none
def extA (F : FP) (as : List Sl) : Option PV := match F as with
  | some (.fz p, bs) => if bs.length = as.length then some p else none
  | _ => none
inductive AsSl : List AS → List Sl → Prop
  | nil : AsSl [] []
  | f {p : PV} {A : List AS} {ss : List Sl} : AsSl A ss → AsSl (.fz p :: A) (.fz p :: ss)
  | o {p : List PV} {A : List AS} {ss : List Sl} : AsSl A ss → AsSl (.own p :: A) (.own p :: ss)
theorem AsSl.uniq : ∀ {as : List AS} {ss ts : List Sl}, AsSl as ss → Ag as ts → ts = ss
  | _, _, _, .nil, .nil => rfl
  | _, _, _, .f h, .cons h0 k => by rw [h.uniq k]; rw [show _ = Sl.fz _ from h0]
  | _, _, _, .o h, .cons h0 k => by rw [h.uniq k]; rw [show _ = Sl.own _ from h0]
theorem any_ag : ∀ {bs : List Sl}, Ag (List.replicate bs.length .any) bs
  | [] => .nil
  | _ :: _ => .cons trivial any_ag
theorem extB_fj {F : FP} {as : List AS} {ss : List Sl} {b : Bool} (hb : extB F ss = some b) (h : AsSl as ss) : FJ F as (.fz (.bl b)) (List.replicate ss.length .any) := fun ts ht => by
  rw [h.uniq ht]
  unfold extB at hb
  split at hb
  · rename_i c bs e
    split at hb
    · rename_i hl
      cases hb
      exact ⟨_, bs, e, rfl, by rw [← hl]; exact any_ag⟩
    · cases hb
  · cases hb
theorem extA_fj {F : FP} {as : List AS} {ss : List Sl} {b : PV} (hb : extA F ss = some b) (h : AsSl as ss) : FJ F as (.fz b) (List.replicate ss.length .any) := fun ts ht => by
  rw [h.uniq ht]
  unfold extA at hb
  split at hb
  · rename_i c bs e
    split at hb
    · rename_i hl
      cases hb
      exact ⟨_, bs, e, rfl, by rw [← hl]; exact any_ag⟩
    · cases hb
  · cases hb
/-- a draw, a hand: told by the raw functions -/
def drawF (F : FP) (h : List PV) (k : Int) : Option (Int × List PV) := match F [.own h, .fz (.int k)] with
  | some (.fz (.int r), [.own h', .fz q]) => if isNon q = true then none else match q with
    | .int k' => if k' = k then some (r, h') else none
    | _ => none
  | _ => none
theorem drawF_fj {F : FP} {h : List PV} {k : Int} {r : Int × List PV} (e : drawF F h k = some r) : FJ F [.own h, .fz (.int k)] (.fz (.int r.1)) [.own r.2, .fz (.int k)] := fun ss hs => by
  have := AsSl.uniq (.o (.f .nil)) hs
  subst this
  unfold drawF at e
  split at e
  · rename_i r' h' q e1
    split at e
    · cases e
    · split at e
      · split at e
        · rename_i k' _ hk
          cases e
          subst hk
          exact ⟨_, _, e1, rfl, .cons rfl (.cons rfl .nil)⟩
        · cases e
      · cases e
  · cases e
def handF (F : FP) (ns : List Int) : Option (List PV) := match F [.fz (.scr (Ints ns))] with
  | some (.own h, [_]) => some h
  | _ => none
theorem handF_fj {F : FP} {ns : List Int} {h : List PV} (e : handF F ns = some h) : FJ F [.fz (eScr ns)] (.own h) [.any] := fun ss hs => by
  have := AsSl.uniq (.f .nil) hs
  subst this
  unfold handF at e
  split at e
  · rename_i h' q e1
    cases e
    exact ⟨_, _, e1, rfl, .cons trivial .nil⟩
  · cases e
@[irreducible] def fuelQ : Nat := 100000
end PL
set_option Elab.async false
set_option linter.all false
set_option maxRecDepth 100000
set_option maxHeartbeats 4000000
/-! PL9: more constructs: is of bools. -/
namespace PL
open PySem PySem.Spec PyProof.Rows L2
def opIsB : PV → PV → Option Vl
  | .bl a, .bl b => some (.fz (.bl (decide (a = b))))
  | _, _ => none
def opIsNB : PV → PV → Option Vl
  | .bl a, .bl b => some (.fz (.bl (!decide (a = b))))
  | _, _ => none
theorem bin_isB {R : RE} : BinOk R opIsB rIsB := by
  intro e F H B p q x y r Q hB hp hq ho k
  unfold opIsB at ho
  split at ho
  · rename_i i j
    cases ho
    exact ⟨i, j, hp.bl, hq.bl, k _ H F (hB.push_fz (.bl _))⟩
  · cases ho
theorem bin_isNB {R : RE} : BinOk R opIsNB rNotB := by
  intro e F H B p q x y r Q hB hp hq ho k
  unfold opIsNB at ho
  split at ho
  · rename_i i j
    cases ho
    exact ⟨i, j, hp.bl, hq.bl, k _ H F (hB.push_fz (.bl _))⟩
  · cases ho
def opIs2 : PV → PV → Option Vl := fun p q => match opIs p q with
  | some r => some r
  | none => opIsB p q
def opIsN2 : PV → PV → Option Vl := fun p q => match opIsNot p q with
  | some r => some r
  | none => opIsNB p q
theorem bin_is2 {R : RE} : BinOk R opIs2 (fun x y H Q => (y = .non ∧ Q (.bl (decide (x = .non))) H) ∨ rIsB x y H Q) := bin_is.or bin_isB
theorem bin_isN2 {R : RE} : BinOk R opIsN2 (fun x y H Q => (y = .non ∧ Q (.bl (!decide (x = .non))) H) ∨ rNotB x y H Q) := bin_isNot.or bin_isNB
theorem op_is2 {X : Cx} : OpR X (compareOp .Is) (fun x y H Q => (y = .non ∧ Q (.bl (decide (x = .non))) H) ∨ rIsB x y H Q) := op_isN.or op_isBl
theorem op_isN2 {X : Cx} : OpR X (compareOp .IsNot) (fun x y H Q => (y = .non ∧ Q (.bl (!decide (x = .non))) H) ∨ rNotB x y H Q) := op_notN.or op_notBl
section
variable {α : Type} {e : α → PV}
theorem opIs2_O (h : ∀ a, isNon (e a) = false) {o : Option α} : opIs2 (eO e o) .non = some (.fz (.bl o.isNone)) := by
  unfold opIs2
  rw [opIs_O h]
theorem opIsN2_O (h : ∀ a, isNon (e a) = false) {o : Option α} : opIsN2 (eO e o) .non = some (.fz (.bl o.isSome)) := by
  unfold opIsN2
  rw [opIsNot_O h]
end
end PL
set_option Elab.async false
set_option linter.all false
set_option maxRecDepth 100000
set_option maxHeartbeats 4000000
/-! PL10: the draws and hands of all laws. -/
namespace PL
open PySem
def dAG (MIX : PF) : PSF := (sIf (tAndF (tOf (eBin opEq (eBin opIx (ePk 0) (eC (.int 2))) (eC (.int 0)))) (tOf (eBin opLt (eBin opIx (ePk 0) (eC (.int 1))) (eNary clLen (aCons (eBin opIx (ePk 0) (eC (.int 0))) aNil))))) (sSeq (sSet 2 (eBin opIx (eBin opIx (ePk 0) (eC (.int 0))) (eBin opIx (ePk 0) (eC (.int 1))))) (sSeq (sSetIx 0 (eBin opAdd (eBin opIx (ePk 0) (eC (.int 1))) (eC (.int 1))) (eC (.int 1))) (sSeq (sSetIx 0 (eBin opMod (eNary clInt (aCons MIX aNil)) (eC (.int 2147483629))) (eC (.int 3))) (sIf (tOf (eBin opGe (ePk 2) (eBin opPow (eC (.int 10)) (eC (.int 18))))) (sSetIx 0 (eVar 2) (eC (.int 2))) sNil)))) sNil)
def dCG (k1 k2 : Int) : PSF := (sSeq (sSetIx 0 (eBin opAdd (eBin opIx (ePk 0) (eC (.int 4))) (eC (.int 1))) (eC (.int 4))) (sSeq (sSet 4 (eBin opMod (eNary clInt (aCons (eBin opMul (eNary clInt (aCons (eBin opAdd (eBin opIx (ePk 0) (eC (.int 3))) (eBin opMul (eC (.int 7919)) (eBin opIx (ePk 0) (eC (.int 4))))) aNil)) (eC (.int 48271))) aNil)) (eC (.int 2147483647)))) (sSeq (sSet 4 (eBin opMod (eNary clInt (aCons (eBin opMul (ePk 4) (eBin opAdd (eBin opFdiv (ePk 4) (eC (.int 1009))) (eC (.int 69621)))) aNil)) (eC (.int 2147483647)))) (sSeq (sSet 4 (eBin opMod (eNary clInt (aCons (eBin opMul (ePk 4) (eBin opAdd (eBin opFdiv (ePk 4) (eC (.int 2003))) (eC (.int k1)))) aNil)) (eC (.int k2)))) (sRet (eBin opMod (eNary clInt (aCons (eBin opFdiv (ePk 4) (eC (.int 16))) aNil)) (ePk 1)))))))
def F_drawG (MIX : PF) (k1 k2 : Int) : FP := fnF 5 [false, false] (sSeq (dAG MIX) (sSeq dB (dCG k1 k2)))
def MixOk (MIX : PF) : Prop := ∃ M : Int → Int → Int, ∀ (cells : List Int) (a b c d lim cell : Int), MIX [.own [.lst (Ints cells), .int a, .int b, .int c, .int d], .fz (.int lim), .fz (.int cell), .un, .un] = some (.fz (.int (M c cell)), [.own [.lst (Ints cells), .int a, .int b, .int c, .int d], .fz (.int lim), .fz (.int cell), .un, .un])
def mixA (k : Int) : PF := eBin opAdd (eBin opAdd (eBin opMul (eBin opIx (ePk 0) (eC (.int 3))) (eC (.int 69621))) (ePk 2)) (eC (.int k))
def mixB (k : Int) : PF := eBin opAdd (eBin opAdd (eBin opMul (eBin opIx (ePk 0) (eC (.int 3))) (eC (.int 69621))) (eBin opMul (ePk 2) (eC (.int 40692)))) (eC (.int k))
theorem mixA_ok {k : Int} : MixOk (mixA k) := ⟨fun c cell => c * 69621 + cell + k, fun cells a b c d lim cell => by
  have hm : mulOk c 69621 = true := mulOk_r (by omega)
  simp [mixA, fnF, prepP, finP, sNil, sSeq, sIf, sRet, sRetN, sExpr, sSet, sPar, sPar3, sAsg, sSetIx, sFor, gNm, gTp, gsNil, gsCons, eVar, ePk, eMv, eBor, eC, eBin, eNeg, eAndF, eOrF, eNotF, eIf, eChain, eTup, eLst, eNary, eCall, eMeth, eMake, eFld, eSl, oSome, oNone, aNil, aCons, tOf, tAndF, tOrF, tNotF, cont, conts, tmpOf, valOf, valsOf, toVl, Vl.sl, putB, iSeq, seqOf, iRange1, iRange2, iZip2, iZip3, iEnum, opAdd, opSub, opMul, opMod, opFdiv, opPow, opEq, opNe, opLt, opLe, opGt, opGe, opCmp, opIs, opIsNot, opIx, opSl, isNon, clLen, clAbs, clInt, clMax, clMin, clMax2, clMin2, clSum, clSum2, clAll, clAny, clTuple, clList, clIsi, isTy, isAny, tyP, subTy, eAppend, eExtend, L2.atI, L2.ixN, datN_i, datN_n, datN_b, datN_l, datN_t, datNs_Ints, datNs_nil, eqP_ii, eqP_ll, eqP_tt, eqP_nn, eqP_bb, eqPs_Ints, eqPs_nn, eqPs_nc, eqPs_cn, lineN, hm]⟩
theorem mixB_ok {k : Int} : MixOk (mixB k) := ⟨fun c cell => c * 69621 + cell * 40692 + k, fun cells a b c d lim cell => by
  have hm : mulOk c 69621 = true := mulOk_r (by omega)
  have hm2 : mulOk cell 40692 = true := mulOk_r (by omega)
  simp [mixB, fnF, prepP, finP, sNil, sSeq, sIf, sRet, sRetN, sExpr, sSet, sPar, sPar3, sAsg, sSetIx, sFor, gNm, gTp, gsNil, gsCons, eVar, ePk, eMv, eBor, eC, eBin, eNeg, eAndF, eOrF, eNotF, eIf, eChain, eTup, eLst, eNary, eCall, eMeth, eMake, eFld, eSl, oSome, oNone, aNil, aCons, tOf, tAndF, tOrF, tNotF, cont, conts, tmpOf, valOf, valsOf, toVl, Vl.sl, putB, iSeq, seqOf, iRange1, iRange2, iZip2, iZip3, iEnum, opAdd, opSub, opMul, opMod, opFdiv, opPow, opEq, opNe, opLt, opLe, opGt, opGe, opCmp, opIs, opIsNot, opIx, opSl, isNon, clLen, clAbs, clInt, clMax, clMin, clMax2, clMin2, clSum, clSum2, clAll, clAny, clTuple, clList, clIsi, isTy, isAny, tyP, subTy, eAppend, eExtend, L2.atI, L2.ixN, datN_i, datN_n, datN_b, datN_l, datN_t, datNs_Ints, datNs_nil, eqP_ii, eqP_ll, eqP_tt, eqP_nn, eqP_bb, eqPs_Ints, eqPs_nn, eqPs_nc, eqPs_cn, lineN, hm, hm2]⟩
theorem dAG_no {MIX : PF} {cells : List Int} {i : Nat} {rest mix cnt lim : Int} (h : ¬ (rest = 0 ∧ i < cells.length)) : dAG MIX [hand cells i rest mix cnt, .fz (.int lim), .un, .un, .un] = some (.nx, [hand cells i rest mix cnt, .fz (.int lim), .un, .un, .un]) := by
  by_cases h1 : rest = 0
  · have h2 : ¬ i < cells.length := fun z => h ⟨h1, z⟩
    simp [dAG, hand, Ints_len, Ints_get, fnF, prepP, finP, sNil, sSeq, sIf, sRet, sRetN, sExpr, sSet, sPar, sPar3, sAsg, sSetIx, sFor, gNm, gTp, gsNil, gsCons, eVar, ePk, eMv, eBor, eC, eBin, eNeg, eAndF, eOrF, eNotF, eIf, eChain, eTup, eLst, eNary, eCall, eMeth, eMake, eFld, eSl, oSome, oNone, aNil, aCons, tOf, tAndF, tOrF, tNotF, cont, conts, tmpOf, valOf, valsOf, toVl, Vl.sl, putB, iSeq, seqOf, iRange1, iRange2, iZip2, iZip3, iEnum, opAdd, opSub, opMul, opMod, opFdiv, opPow, opEq, opNe, opLt, opLe, opGt, opGe, opCmp, opIs, opIsNot, opIx, opSl, isNon, clLen, clAbs, clInt, clMax, clMin, clMax2, clMin2, clSum, clSum2, clAll, clAny, clTuple, clList, clIsi, isTy, isAny, tyP, subTy, eAppend, eExtend, L2.atI, L2.ixN, datN_i, datN_n, datN_b, datN_l, datN_t, datNs_Ints, datNs_nil, eqP_ii, eqP_ll, eqP_tt, eqP_nn, eqP_bb, eqPs_Ints, eqPs_nn, eqPs_nc, eqPs_cn, lineN, h1]
    omega
  · simp [dAG, hand, Ints_len, Ints_get, fnF, prepP, finP, sNil, sSeq, sIf, sRet, sRetN, sExpr, sSet, sPar, sPar3, sAsg, sSetIx, sFor, gNm, gTp, gsNil, gsCons, eVar, ePk, eMv, eBor, eC, eBin, eNeg, eAndF, eOrF, eNotF, eIf, eChain, eTup, eLst, eNary, eCall, eMeth, eMake, eFld, eSl, oSome, oNone, aNil, aCons, tOf, tAndF, tOrF, tNotF, cont, conts, tmpOf, valOf, valsOf, toVl, Vl.sl, putB, iSeq, seqOf, iRange1, iRange2, iZip2, iZip3, iEnum, opAdd, opSub, opMul, opMod, opFdiv, opPow, opEq, opNe, opLt, opLe, opGt, opGe, opCmp, opIs, opIsNot, opIx, opSl, isNon, clLen, clAbs, clInt, clMax, clMin, clMax2, clMin2, clSum, clSum2, clAll, clAny, clTuple, clList, clIsi, isTy, isAny, tyP, subTy, eAppend, eExtend, L2.atI, L2.ixN, datN_i, datN_n, datN_b, datN_l, datN_t, datNs_Ints, datNs_nil, eqP_ii, eqP_ll, eqP_tt, eqP_nn, eqP_bb, eqPs_Ints, eqPs_nn, eqPs_nc, eqPs_cn, lineN, h1]
theorem dAG_yes {MIX : PF} (hM : MixOk MIX) {cells : List Int} {i : Nat} {mix cnt lim c : Int} (h : cells[i]? = some c) : ∃ m, dAG MIX [hand cells i 0 mix cnt, .fz (.int lim), .un, .un, .un] = some (.nx, [hand cells (i + 1) (if 10 ^ 18 ≤ c then c else 0) m cnt, .fz (.int lim), .fz (.int c), .un, .un]) := by
  obtain ⟨M, hM⟩ := hM
  obtain ⟨hi, rfl⟩ := List.getElem?_eq_some_iff.mp h
  refine ⟨M mix cells[i] % 2147483629, ?_⟩
  have hn : (Ints cells).length = cells.length := by simp [Ints]
  have e := hM cells (i + 1) 0 mix cnt lim cells[i]
  by_cases hc : (1000000000000000000 : Int) ≤ cells[i]
  · simp [dAG, hand, Ints_len, Ints_get, fnF, prepP, finP, sNil, sSeq, sIf, sRet, sRetN, sExpr, sSet, sPar, sPar3, sAsg, sSetIx, sFor, gNm, gTp, gsNil, gsCons, eVar, ePk, eMv, eBor, eC, eBin, eNeg, eAndF, eOrF, eNotF, eIf, eChain, eTup, eLst, eNary, eCall, eMeth, eMake, eFld, eSl, oSome, oNone, aNil, aCons, tOf, tAndF, tOrF, tNotF, cont, conts, tmpOf, valOf, valsOf, toVl, Vl.sl, putB, iSeq, seqOf, iRange1, iRange2, iZip2, iZip3, iEnum, opAdd, opSub, opMul, opMod, opFdiv, opPow, opEq, opNe, opLt, opLe, opGt, opGe, opCmp, opIs, opIsNot, opIx, opSl, isNon, clLen, clAbs, clInt, clMax, clMin, clMax2, clMin2, clSum, clSum2, clAll, clAny, clTuple, clList, clIsi, isTy, isAny, tyP, subTy, eAppend, eExtend, L2.atI, L2.ixN, datN_i, datN_n, datN_b, datN_l, datN_t, datNs_Ints, datNs_nil, eqP_ii, eqP_ll, eqP_tt, eqP_nn, eqP_bb, eqPs_Ints, eqPs_nn, eqPs_nc, eqPs_cn, lineN, hi, e, hc]
  · simp [dAG, hand, Ints_len, Ints_get, fnF, prepP, finP, sNil, sSeq, sIf, sRet, sRetN, sExpr, sSet, sPar, sPar3, sAsg, sSetIx, sFor, gNm, gTp, gsNil, gsCons, eVar, ePk, eMv, eBor, eC, eBin, eNeg, eAndF, eOrF, eNotF, eIf, eChain, eTup, eLst, eNary, eCall, eMeth, eMake, eFld, eSl, oSome, oNone, aNil, aCons, tOf, tAndF, tOrF, tNotF, cont, conts, tmpOf, valOf, valsOf, toVl, Vl.sl, putB, iSeq, seqOf, iRange1, iRange2, iZip2, iZip3, iEnum, opAdd, opSub, opMul, opMod, opFdiv, opPow, opEq, opNe, opLt, opLe, opGt, opGe, opCmp, opIs, opIsNot, opIx, opSl, isNon, clLen, clAbs, clInt, clMax, clMin, clMax2, clMin2, clSum, clSum2, clAll, clAny, clTuple, clList, clIsi, isTy, isAny, tyP, subTy, eAppend, eExtend, L2.atI, L2.ixN, datN_i, datN_n, datN_b, datN_l, datN_t, datNs_Ints, datNs_nil, eqP_ii, eqP_ll, eqP_tt, eqP_nn, eqP_bb, eqPs_Ints, eqPs_nn, eqPs_nc, eqPs_cn, lineN, hi, e, hc]
theorem dCG_of {k1 k2 : Int} (hk : 0 < k2) {cells : List Int} {i mix cnt lim : Int} {a b c : Sl} (hl : 0 < lim ∧ lim < 2 ^ 64) : ∃ r x, dCG k1 k2 [hand cells i 0 mix cnt, .fz (.int lim), a, b, c] = some (.rt (.fz (.int r)), [hand cells i 0 mix (cnt + 1), .fz (.int lim), a, b, x]) ∧ 0 ≤ r ∧ r < lim := by
  have h1 : mulOk 7919 (cnt + 1) = true := mulOk_l (by omega)
  have h2 : ∀ j : Int, mulOk j 48271 = true := fun j => mulOk_r (by omega)
  have h3 : ∀ j k : Int, mulOk (j % 2147483647) k = true := fun j k => mulOk_l (by omega)
  have g1 : Nat.log2 1009 < 9000 := by decide +kernel
  have g2 : Nat.log2 2003 < 9000 := by decide +kernel
  have g3 : Nat.log2 16 < 9000 := by decide +kernel
  refine ⟨_, _, by
    simp [dCG, hand, fnF, prepP, finP, sNil, sSeq, sIf, sRet, sRetN, sExpr, sSet, sPar, sPar3, sAsg, sSetIx, sFor, gNm, gTp, gsNil, gsCons, eVar, ePk, eMv, eBor, eC, eBin, eNeg, eAndF, eOrF, eNotF, eIf, eChain, eTup, eLst, eNary, eCall, eMeth, eMake, eFld, eSl, oSome, oNone, aNil, aCons, tOf, tAndF, tOrF, tNotF, cont, conts, tmpOf, valOf, valsOf, toVl, Vl.sl, putB, iSeq, seqOf, iRange1, iRange2, iZip2, iZip3, iEnum, opAdd, opSub, opMul, opMod, opFdiv, opPow, opEq, opNe, opLt, opLe, opGt, opGe, opCmp, opIs, opIsNot, opIx, opSl, isNon, clLen, clAbs, clInt, clMax, clMin, clMax2, clMin2, clSum, clSum2, clAll, clAny, clTuple, clList, clIsi, isTy, isAny, tyP, subTy, eAppend, eExtend, L2.atI, L2.ixN, datN_i, datN_n, datN_b, datN_l, datN_t, datNs_Ints, datNs_nil, eqP_ii, eqP_ll, eqP_tt, eqP_nn, eqP_bb, eqPs_Ints, eqPs_nn, eqPs_nc, eqPs_cn, lineN, h1, h2, h3, hl, hk, g1, g2, g3]
    exact ⟨rfl, rfl⟩, ?_, ?_⟩
  · exact Int.emod_nonneg _ (by omega)
  · exact Int.emod_lt_of_pos _ (by omega)
theorem drawG_spec {MIX : PF} {k1 k2 : Int} (hM : MixOk MIX) (hk : 0 < k2) {s : Sl} {lim : Int} (h : Hd s) (hl : 0 < lim ∧ lim < 2 ^ 64) : ∃ r s', F_drawG MIX k1 k2 [s, .fz (.int lim)] = some (.fz (.int r), [s', .fz (.int lim)]) ∧ 0 ≤ r ∧ r < lim ∧ Hd s' := by
  obtain ⟨cells, i, rest, mix, cnt, rfl, hi, hr, hc⟩ := h
  obtain ⟨i', rest', mix', a, e1, hi', hr'⟩ : ∃ (i' : Nat) (rest' mix' : Int) (a : Sl), dAG MIX [hand cells i rest mix cnt, .fz (.int lim), .un, .un, .un] = some (.nx, [hand cells i' rest' mix' cnt, .fz (.int lim), a, .un, .un]) ∧ i' ≤ cells.length ∧ 0 ≤ rest' := by
    by_cases h1 : rest = 0 ∧ i < cells.length
    · obtain ⟨rfl, h2⟩ := h1
      obtain ⟨m, e⟩ := dAG_yes hM (mix := mix) (cnt := cnt) (lim := lim) (List.getElem?_eq_getElem h2)
      refine ⟨i + 1, _, m, _, by rw [show ((i + 1 : Nat) : Int) = (i : Int) + 1 by omega]; exact e, h2, ?_⟩
      split
      · exact hc _ (List.getElem_mem h2)
      · omega
    · exact ⟨i, rest, mix, .un, dAG_no h1, hi, hr⟩
  unfold F_drawG
  by_cases h2 : 0 < rest'
  · have e2 := dB_yes (cells := cells) (i := i') (mix := mix') (cnt := cnt) (a := a) (b := .un) (c := .un) h2 hl
    refine ⟨rest' % lim, hand cells i' (rest' / lim) mix' cnt, ?_, Int.emod_nonneg _ (by omega), Int.emod_lt_of_pos _ (by omega), cells, i', _, _, _, rfl, hi', Int.ediv_nonneg hr' (by omega), hc⟩
    simp [fnF, prepP, sSeq, e1, e2, finP]
  · have h3 : rest' = 0 := by omega
    subst h3
    obtain ⟨r, x, e3, h4, h5⟩ := dCG_of (k1 := k1) hk (cells := cells) (i := i') (mix := mix') (cnt := cnt) (a := a) (b := .un) (c := .un) hl
    refine ⟨r, hand cells i' 0 mix' (cnt + 1), ?_, h4, h5, cells, i', _, _, _, rfl, hi', Int.le_refl _, hc⟩
    simp [fnF, prepP, sSeq, e1, dB_no, e3, finP]
/-- a hand that may be drawn from -/
def HdL (h : List PV) : Prop := Hd (.own h)
theorem drawF_ok {F : FP} {MIX : PF} {k1 k2 : Int} (e : F = F_drawG MIX k1 k2) (hM : MixOk MIX) (hk : 0 < k2) {h : List PV} (hh : HdL h) {lim : Int} (hl : 0 < lim ∧ lim < 2 ^ 64) : ∃ r h', drawF F h lim = some (r, h') ∧ 0 ≤ r ∧ r < lim ∧ HdL h' := by
  obtain ⟨r, s', e1, h1, h2, h3⟩ := drawG_spec hM hk hh hl
  obtain ⟨xs, rfl⟩ : ∃ xs, s' = .own xs := by obtain ⟨c1, i1, r1, m1, n1, rfl, _⟩ := h3; exact ⟨_, rfl⟩
  refine ⟨r, xs, ?_, h1, h2, h3⟩
  unfold drawF
  rw [e, e1]
  simp [isNon]
def hMixOk (MIX : PF) : Prop := ∀ (a : Sl) (cs : List PV) , ∃ m, MIX [a, .fz (.lst cs), .un] = some (.fz (.int m), [a, .fz (.lst cs), .un])
def hmixA (k l : Int) : PF := eBin opAdd (eC (.int k)) (eBin opMul (eC (.int l)) (eNary clLen (aCons (ePk 1) aNil)))
def hmixB (k : Int) : PF := eBin opAdd (eC (.int k)) (eNary clLen (aCons (ePk 1) aNil))
theorem hmixA_ok {k l : Int} (hl : -(2 ^ 64) < l ∧ l < 2 ^ 64) : hMixOk (hmixA k l) := fun a cs => by
  have hm : mulOk l (cs.length : Int) = true := mulOk_l hl
  refine ⟨k + l * cs.length, ?_⟩
  simp [hmixA, fnF, prepP, finP, sNil, sSeq, sIf, sRet, sRetN, sExpr, sSet, sPar, sPar3, sAsg, sSetIx, sFor, gNm, gTp, gsNil, gsCons, eVar, ePk, eMv, eBor, eC, eBin, eNeg, eAndF, eOrF, eNotF, eIf, eChain, eTup, eLst, eNary, eCall, eMeth, eMake, eFld, eSl, oSome, oNone, aNil, aCons, tOf, tAndF, tOrF, tNotF, cont, conts, tmpOf, valOf, valsOf, toVl, Vl.sl, putB, iSeq, seqOf, iRange1, iRange2, iZip2, iZip3, iEnum, opAdd, opSub, opMul, opMod, opFdiv, opPow, opEq, opNe, opLt, opLe, opGt, opGe, opCmp, opIs, opIsNot, opIx, opSl, isNon, clLen, clAbs, clInt, clMax, clMin, clMax2, clMin2, clSum, clSum2, clAll, clAny, clTuple, clList, clIsi, isTy, isAny, tyP, subTy, eAppend, eExtend, L2.atI, L2.ixN, datN_i, datN_n, datN_b, datN_l, datN_t, datNs_Ints, datNs_nil, eqP_ii, eqP_ll, eqP_tt, eqP_nn, eqP_bb, eqPs_Ints, eqPs_nn, eqPs_nc, eqPs_cn, lineN, hm]
theorem hmixB_ok {k : Int} : hMixOk (hmixB k) := fun a cs => by
  refine ⟨k + cs.length, ?_⟩
  simp [hmixB, fnF, prepP, finP, sNil, sSeq, sIf, sRet, sRetN, sExpr, sSet, sPar, sPar3, sAsg, sSetIx, sFor, gNm, gTp, gsNil, gsCons, eVar, ePk, eMv, eBor, eC, eBin, eNeg, eAndF, eOrF, eNotF, eIf, eChain, eTup, eLst, eNary, eCall, eMeth, eMake, eFld, eSl, oSome, oNone, aNil, aCons, tOf, tAndF, tOrF, tNotF, cont, conts, tmpOf, valOf, valsOf, toVl, Vl.sl, putB, iSeq, seqOf, iRange1, iRange2, iZip2, iZip3, iEnum, opAdd, opSub, opMul, opMod, opFdiv, opPow, opEq, opNe, opLt, opLe, opGt, opGe, opCmp, opIs, opIsNot, opIx, opSl, isNon, clLen, clAbs, clInt, clMax, clMin, clMax2, clMin2, clSum, clSum2, clAll, clAny, clTuple, clList, clIsi, isTy, isAny, tyP, subTy, eAppend, eExtend, L2.atI, L2.ixN, datN_i, datN_n, datN_b, datN_l, datN_t, datNs_Ints, datNs_nil, eqP_ii, eqP_ll, eqP_tt, eqP_nn, eqP_bb, eqPs_Ints, eqPs_nn, eqPs_nc, eqPs_cn, lineN]
def F_handG (MIX : PF) : FP := fnF 3 [false] (sSeq (sSet 1 F_hand0_l1) (sRet (eLst (aCons (eVar 1) (aCons (eC (.int 0)) (aCons (eC (.int 0)) (aCons MIX (aCons (eC (.int 0)) aNil))))))))
theorem handG_ok {F : FP} {MIX : PF} (e : F = F_handG MIX) (hM : hMixOk MIX) (ns : List Int) : ∃ h, handF F ns = some h ∧ HdL h := by
  have e1 : F_hand0_l1 [.fz (.scr (Ints ns)), .un, .un] = some (.own ((Ints (cutP ns none (some 63))).map fun p => match p with | .int i => .int (absI i) | _ => .non), [.fz (.scr (Ints ns)), .un, .un]) := by
    refine eLc_map (items := Ints (cutP ns none (some 63))) (rs := [.own (Ints (cutP ns none (some 63)))]) _ (by simp [fnF, prepP, finP, sNil, sSeq, sIf, sRet, sRetN, sExpr, sSet, sPar, sPar3, sAsg, sSetIx, sFor, gNm, gTp, gsNil, gsCons, eVar, ePk, eMv, eBor, eC, eBin, eNeg, eAndF, eOrF, eNotF, eIf, eChain, eTup, eLst, eNary, eCall, eMeth, eMake, eFld, eSl, oSome, oNone, aNil, aCons, tOf, tAndF, tOrF, tNotF, cont, conts, tmpOf, valOf, valsOf, toVl, Vl.sl, putB, iSeq, seqOf, iRange1, iRange2, iZip2, iZip3, iEnum, opAdd, opSub, opMul, opMod, opFdiv, opPow, opEq, opNe, opLt, opLe, opGt, opGe, opCmp, opIs, opIsNot, opIx, opSl, isNon, clLen, clAbs, clInt, clMax, clMin, clMax2, clMin2, clSum, clSum2, clAll, clAny, clTuple, clList, clIsi, isTy, isAny, tyP, subTy, eAppend, eExtend, L2.atI, L2.ixN, datN_i, datN_n, datN_b, datN_l, datN_t, datNs_Ints, datNs_nil, eqP_ii, eqP_ll, eqP_tt, eqP_nn, eqP_bb, eqPs_Ints, eqPs_nn, eqPs_nc, eqPs_cn, lineN, cutP_Ints]) (by simp [fnF, prepP, finP, sNil, sSeq, sIf, sRet, sRetN, sExpr, sSet, sPar, sPar3, sAsg, sSetIx, sFor, gNm, gTp, gsNil, gsCons, eVar, ePk, eMv, eBor, eC, eBin, eNeg, eAndF, eOrF, eNotF, eIf, eChain, eTup, eLst, eNary, eCall, eMeth, eMake, eFld, eSl, oSome, oNone, aNil, aCons, tOf, tAndF, tOrF, tNotF, cont, conts, tmpOf, valOf, valsOf, toVl, Vl.sl, putB, iSeq, seqOf, iRange1, iRange2, iZip2, iZip3, iEnum, opAdd, opSub, opMul, opMod, opFdiv, opPow, opEq, opNe, opLt, opLe, opGt, opGe, opCmp, opIs, opIsNot, opIx, opSl, isNon, clLen, clAbs, clInt, clMax, clMin, clMax2, clMin2, clSum, clSum2, clAll, clAny, clTuple, clList, clIsi, isTy, isAny, tyP, subTy, eAppend, eExtend, L2.atI, L2.ixN, datN_i, datN_n, datN_b, datN_l, datN_t, datNs_Ints, datNs_nil, eqP_ii, eqP_ll, eqP_tt, eqP_nn, eqP_bb, eqPs_Ints, eqPs_nn, eqPs_nc, eqPs_cn, lineN]) (by decide) (by simp) fun q hq => ?_
    obtain ⟨c, hc, rfl⟩ := Ints_mem hq
    refine ⟨[.fz (.int c)], .fz (.int (absI c)), [.fz (.int c)], ?_⟩
    simp [fnF, prepP, finP, sNil, sSeq, sIf, sRet, sRetN, sExpr, sSet, sPar, sPar3, sAsg, sSetIx, sFor, gNm, gTp, gsNil, gsCons, eVar, ePk, eMv, eBor, eC, eBin, eNeg, eAndF, eOrF, eNotF, eIf, eChain, eTup, eLst, eNary, eCall, eMeth, eMake, eFld, eSl, oSome, oNone, aNil, aCons, tOf, tAndF, tOrF, tNotF, cont, conts, tmpOf, valOf, valsOf, toVl, Vl.sl, putB, iSeq, seqOf, iRange1, iRange2, iZip2, iZip3, iEnum, opAdd, opSub, opMul, opMod, opFdiv, opPow, opEq, opNe, opLt, opLe, opGt, opGe, opCmp, opIs, opIsNot, opIx, opSl, isNon, clLen, clAbs, clInt, clMax, clMin, clMax2, clMin2, clSum, clSum2, clAll, clAny, clTuple, clList, clIsi, isTy, isAny, tyP, subTy, eAppend, eExtend, L2.atI, L2.ixN, datN_i, datN_n, datN_b, datN_l, datN_t, datNs_Ints, datNs_nil, eqP_ii, eqP_ll, eqP_tt, eqP_nn, eqP_bb, eqPs_Ints, eqPs_nn, eqPs_nc, eqPs_cn, lineN, wipeS, backS, absI]
    split <;> omega
  have e2 : ((Ints (cutP ns none (some 63))).map fun p => match p with | .int i => .int (absI i) | _ => .non) = Ints ((cutP ns none (some 63)).map absI) := by
    unfold Ints
    rw [List.map_map, List.map_map]
    rfl
  rw [e2] at e1
  have hp : ∀ c ∈ (cutP ns none (some 63)).map absI, 0 ≤ c := fun c hc => by
    obtain ⟨d, _, rfl⟩ := List.mem_map.mp hc
    unfold absI
    omega
  generalize (cutP ns none (some 63)).map absI = cs at e1 hp
  obtain ⟨m, hm⟩ := hM (.fz (.scr (Ints ns))) (Ints cs)
  refine ⟨[.lst (Ints cs), .int 0, .int 0, .int m, .int 0], ?_, cs, 0, 0, m, 0, rfl, Nat.zero_le _, Int.le_refl _, hp⟩
  unfold handF
  rw [e]
  simp [F_handG, fnF, prepP, finP, sNil, sSeq, sIf, sRet, sRetN, sExpr, sSet, sPar, sPar3, sAsg, sSetIx, sFor, gNm, gTp, gsNil, gsCons, eVar, ePk, eMv, eBor, eC, eBin, eNeg, eAndF, eOrF, eNotF, eIf, eChain, eTup, eLst, eNary, eCall, eMeth, eMake, eFld, eSl, oSome, oNone, aNil, aCons, tOf, tAndF, tOrF, tNotF, cont, conts, tmpOf, valOf, valsOf, toVl, Vl.sl, putB, iSeq, seqOf, iRange1, iRange2, iZip2, iZip3, iEnum, opAdd, opSub, opMul, opMod, opFdiv, opPow, opEq, opNe, opLt, opLe, opGt, opGe, opCmp, opIs, opIsNot, opIx, opSl, isNon, clLen, clAbs, clInt, clMax, clMin, clMax2, clMin2, clSum, clSum2, clAll, clAny, clTuple, clList, clIsi, isTy, isAny, tyP, subTy, eAppend, eExtend, L2.atI, L2.ixN, datN_i, datN_n, datN_b, datN_l, datN_t, datNs_Ints, datNs_nil, eqP_ii, eqP_ll, eqP_tt, eqP_nn, eqP_bb, eqPs_Ints, eqPs_nn, eqPs_nc, eqPs_cn, lineN, e1, Ints_len, hm]
end PL
set_option Elab.async false
set_option linter.all false
set_option maxRecDepth 100000
set_option maxHeartbeats 1000000
/-! PL11: plain facts of what the typed layer speaks of. -/
namespace PL
open PySem
section
variable {α β G R O : Type} {xs : List α} {g : G}
theorem forG_mem {b : α → G → Option G} (I : G → Prop) (h : I g) (st : ∀ x ∈ xs, ∀ g, I g → ∃ g', b x g = some g' ∧ I g') : ∃ g', forG xs g b = some g' ∧ I g' := by
  induction xs generalizing g with
  | nil => exact ⟨g, rfl, h⟩
  | cons x xs ih =>
    obtain ⟨g1, e1, h1⟩ := st x List.mem_cons_self g h
    obtain ⟨g2, e2, h2⟩ := ih h1 fun y hy => st y (List.mem_cons_of_mem _ hy)
    refine ⟨g2, ?_, h2⟩
    unfold forG
    rw [e1, Option.bind_some, e2]
theorem forG_ix {b : α → G → Option G} (I : Nat → G → Prop) (k : Nat) (h : I k g) (st : ∀ j x g, xs[j]? = some x → I (k + j) g → ∃ g', b x g = some g' ∧ I (k + j + 1) g') : ∃ g', forG xs g b = some g' ∧ I (k + xs.length) g' := by
  induction xs generalizing g k with
  | nil => exact ⟨g, rfl, h⟩
  | cons x xs ih =>
    obtain ⟨g1, e1, h1⟩ := st 0 x g rfl h
    obtain ⟨g2, e2, h2⟩ := ih (k + 1) h1 fun j y g hy hI => by
      have := st (j + 1) y g (by simpa using hy) (by rw [show k + (j + 1) = k + 1 + j by omega]; exact hI)
      rw [show k + (j + 1) + 1 = k + 1 + j + 1 by omega] at this
      exact this
    refine ⟨g2, ?_, by rw [List.length_cons, show k + (xs.length + 1) = k + 1 + xs.length by omega]; exact h2⟩
    unfold forG
    rw [e1, Option.bind_some, e2]
theorem forG_fold {b : α → G → Option G} (f : G → α → G) (I : G → Prop) (h : I g) (st : ∀ x ∈ xs, ∀ g, I g → b x g = some (f g x) ∧ I (f g x)) : forG xs g b = some (xs.foldl f g) ∧ I (xs.foldl f g) := by
  induction xs generalizing g with
  | nil => exact ⟨rfl, h⟩
  | cons x xs ih =>
    obtain ⟨e1, h1⟩ := st x List.mem_cons_self g h
    obtain ⟨e2, h2⟩ := ih h1 fun y hy => st y (List.mem_cons_of_mem _ hy)
    refine ⟨?_, h2⟩
    unfold forG
    rw [e1, Option.bind_some, e2]; rfl
theorem forG_fold0 {b : α → G → Option G} (f : G → α → G) (st : ∀ x ∈ xs, ∀ g, b x g = some (f g x)) : forG xs g b = some (xs.foldl f g) :=
  (forG_fold f (fun _ => True) trivial fun x hx g _ => ⟨st x hx g, trivial⟩).1
theorem appO_some {ys : List β} {y : β} (h : ys.length < 16777216) : appO ys y = some (ys ++ [y]) := by
  unfold appO lineN; rw [if_pos h]
theorem catO_some {ys zs : List β} (h : ys.length + zs.length ≤ 16777216) : catO ys zs = some (ys ++ zs) := by
  unfold catO lineN; rw [if_pos h]
theorem forG_app {b : α → List β → Option (List β)} {ys : List β} (f : α → β) (st : ∀ x ∈ xs, ∀ g, b x g = appO g (f x)) (hl : ys.length + xs.length ≤ 16777216) : forG xs ys b = some (ys ++ xs.map f) := by
  induction xs generalizing ys with
  | nil => simp [forG]
  | cons x xs ih =>
    simp only [List.length_cons] at hl
    unfold forG
    rw [st x List.mem_cons_self, appO_some (by omega), Option.bind_some, ih (fun y hy => st y (List.mem_cons_of_mem _ hy)) (by simp; omega)]
    simp
theorem forG_cat {b : α → List β → Option (List β)} {ys : List β} (f : α → List β) (st : ∀ x ∈ xs, ∀ g, b x g = catO g (f x)) (hl : ys.length + (xs.flatMap f).length ≤ 16777216) : forG xs ys b = some (ys ++ xs.flatMap f) := by
  induction xs generalizing ys with
  | nil => simp [forG]
  | cons x xs ih =>
    rw [List.flatMap_cons, List.length_append] at hl
    unfold forG
    rw [st x List.mem_cons_self, catO_some (by omega), Option.bind_some, ih (fun y hy => st y (List.mem_cons_of_mem _ hy)) (by simp only [List.length_append]; omega)]
    simp
theorem forG_congr {b b' : α → G → Option G} (st : ∀ x ∈ xs, ∀ g, b x g = b' x g) : forG xs g b = forG xs g b' := by
  induction xs generalizing g with
  | nil => rfl
  | cons x xs ih =>
    unfold forG
    rw [st x List.mem_cons_self]
    cases b' x g with
    | none => rfl
    | some g1 => exact ih fun y hy => st y (List.mem_cons_of_mem _ hy)
theorem forR_all {b : α → G → Option (Ou R G)} {kR : R → O} {kk : G → Option O} (I : G → Prop) (h : I g) (st : ∀ x ∈ xs, ∀ g, I g → ∃ g', b x g = some (.nx g') ∧ I g') : ∃ g', forR xs g b kR kk = kk g' ∧ I g' := by
  induction xs generalizing g with
  | nil => exact ⟨g, rfl, h⟩
  | cons x xs ih =>
    obtain ⟨g1, e1, h1⟩ := st x List.mem_cons_self g h
    obtain ⟨g2, e2, h2⟩ := ih h1 fun y hy => st y (List.mem_cons_of_mem _ hy)
    refine ⟨g2, ?_, h2⟩
    unfold forR
    rw [e1, Option.bind_some]
    exact e2
theorem forR_to {b : α → G → Option (Ou R G)} {kR : R → O} {kk : G → Option O} (P : Option O → Prop) (I : G → Prop) (h : I g) (st : ∀ x ∈ xs, ∀ g, I g → ∃ g', b x g = some (.nx g') ∧ I g') (hk : ∀ g', I g' → P (kk g')) : P (forR xs g b kR kk) := by
  obtain ⟨g', e, h'⟩ := forR_all (kR := kR) (kk := kk) I h st
  rw [e]; exact hk g' h'
theorem forR_find {b : α → G → Option (Ou R G)} {kR : R → O} {kk : G → Option O} (c : α → Bool) (f : α → R) (st : ∀ x ∈ xs, ∀ g, b x g = if c x = true then some (.rt (f x)) else some (.nx g)) : forR xs g b kR kk = match xs.find? c with | some x => some (kR (f x)) | none => kk g := by
  induction xs with
  | nil => rfl
  | cons x xs ih =>
    unfold forR
    rw [st x List.mem_cons_self]
    cases hc : c x with
    | true => rw [List.find?_cons_of_pos hc]; rfl
    | false =>
      rw [List.find?_cons_of_neg (by rw [hc]; simp), ← ih fun y hy => st y (List.mem_cons_of_mem _ hy)]
      rfl
theorem mapO_some {b : α → Option β} {f : α → β} (h : ∀ x ∈ xs, b x = some (f x)) : mapO xs b = some (xs.map f) := by
  induction xs with
  | nil => rfl
  | cons x xs ih =>
    unfold mapO
    rw [h x List.mem_cons_self, Option.bind_some, ih fun y hy => h y (List.mem_cons_of_mem _ hy)]; rfl
theorem lcT_ex {b : α → G → Option (β × G)} (I : G → Prop) (P : α → β → Prop) (h : I g) (st : ∀ x ∈ xs, ∀ g, I g → ∃ y g', b x g = some (y, g') ∧ P x y ∧ I g') : ∃ ys g', lcT xs g b = some (ys, g') ∧ ys.length = xs.length ∧ (∀ y ∈ ys, ∃ x ∈ xs, P x y) ∧ (∀ (j : Nat) x y, xs[j]? = some x → ys[j]? = some y → P x y) ∧ I g' := by
  induction xs generalizing g with
  | nil => exact ⟨[], g, rfl, rfl, by simp, by simp, h⟩
  | cons x xs ih =>
    obtain ⟨y, g1, e1, p1, h1⟩ := st x List.mem_cons_self g h
    obtain ⟨ys, g2, e2, l2, m2, j2, h2⟩ := ih h1 fun y hy => st y (List.mem_cons_of_mem _ hy)
    refine ⟨y :: ys, g2, ?_, by simp [l2], ?_, ?_, h2⟩
    · unfold lcT
      rw [e1, Option.bind_some]
      dsimp only
      rw [e2]; rfl
    · intro z hz
      rcases List.mem_cons.mp hz with rfl | hz
      · exact ⟨x, List.mem_cons_self, p1⟩
      · obtain ⟨w, hw, p⟩ := m2 z hz
        exact ⟨w, List.mem_cons_of_mem _ hw, p⟩
    · intro j a b ha hb
      cases j with
      | zero => simp at ha hb; subst ha hb; exact p1
      | succ j => exact j2 j a b (by simpa using ha) (by simpa using hb)
theorem lcS_filter {b : α → Unit → Option (Option β × Unit)} (c : α → Bool) (f : α → β) (h : ∀ x ∈ xs, ∀ u, b x u = some (if c x = true then some (f x) else none, ())) : lcS xs () b = some ((xs.filter c).map f, ()) := by
  induction xs with
  | nil => rfl
  | cons x xs ih =>
    unfold lcS
    rw [h x List.mem_cons_self, Option.bind_some, ih fun y hy => h y (List.mem_cons_of_mem _ hy)]
    cases hc : c x with
    | true => rw [List.filter_cons_of_pos hc]; rfl
    | false => rw [List.filter_cons_of_neg (by rw [hc]; simp)]; rfl
theorem mem_enumQ {k : Nat} {p : Int × α} (h : p ∈ enumQ k xs) : ∃ j : Nat, xs[j]? = some p.2 ∧ p.1 = ((k + j : Nat) : Int) := by
  induction xs generalizing k with
  | nil => cases h
  | cons x xs ih =>
    rcases List.mem_cons.mp h with rfl | h
    · exact ⟨0, rfl, rfl⟩
    · obtain ⟨j, h1, h2⟩ := ih h
      exact ⟨j + 1, by simpa using h1, by rw [h2]; omega⟩
theorem enumQ_find {k : Nat} (c : Int × α → Bool) : ((enumQ k xs).find? c).map (·.1) = ((List.range xs.length).find? fun j => match xs[j]? with | some x => c (((k + j : Nat) : Int), x) | none => false).map fun j => ((k + j : Nat) : Int) := by
  induction xs generalizing k with
  | nil => rfl
  | cons x xs ih =>
    rw [List.length_cons, List.range_succ_eq_map]
    unfold enumQ
    by_cases hc : c ((k : Int), x) = true
    · rw [List.find?_cons_of_pos hc, List.find?_cons_of_pos (by simpa using hc)]; simp
    · rw [List.find?_cons_of_neg hc, List.find?_cons_of_neg (by simpa using hc), ih, List.find?_map, Option.map_map]
      have e1 : (fun j : Nat => ((k + j : Nat) : Int)) ∘ Nat.succ = fun j : Nat => ((k + 1 + j : Nat) : Int) := by funext j; simp only [Function.comp_apply]; omega
      rw [e1]
      congr 2
      funext j
      simp only [Function.comp_apply, Nat.succ_eq_add_one, List.getElem?_cons_succ]
      rw [show k + (j + 1) = k + 1 + j by omega]
/-! ranges, indices, slices -/
def rg (n : Nat) : List Int := (List.range n).map fun (k : Nat) => (k : Int)
theorem rng1_nat {n : Nat} (h : n ≤ 100000) : rng1 (n : Int) = some (rg n) := by
  unfold rng1 lineN
  rw [if_pos (by omega)]
  simp [rg]
theorem rng1_int {n : Int} (h : 0 ≤ n ∧ n ≤ 100000) : rng1 n = some (rg n.toNat) := by
  have := rng1_nat (n := n.toNat) (by omega)
  rwa [Int.toNat_of_nonneg h.1] at this
theorem mem_rg {n : Nat} {x : Int} : x ∈ rg n ↔ ∃ k : Nat, k < n ∧ x = k := by
  unfold rg
  simp only [List.mem_map, List.mem_range]
  exact ⟨fun ⟨k, h, e⟩ => ⟨k, h, e.symm⟩, fun ⟨k, h, e⟩ => ⟨k, h, e.symm⟩⟩
theorem rg_length {n : Nat} : (rg n).length = n := by simp [rg]
theorem rg_get {n j : Nat} {x : Int} (h : (rg n)[j]? = some x) : j < n ∧ x = j := by
  unfold rg at h
  rw [List.getElem?_map, Option.map_eq_some_iff] at h
  obtain ⟨k, h1, h2⟩ := h
  have := (List.getElem?_eq_some_iff.mp h1).1
  rw [List.length_range] at this
  rw [List.getElem?_range this] at h1
  cases h1
  exact ⟨this, h2.symm⟩
theorem rg_map {n : Nat} {f : Int → β} : (rg n).map f = (List.range n).map fun (k : Nat) => f (k : Int) := by
  unfold rg; rw [List.map_map]; rfl
theorem rng2_nat {i j : Nat} (h : i ≤ 100000 ∧ j ≤ 100000) : rng2 (i : Int) (j : Int) = some ((List.range (j - i)).map fun (k : Nat) => ((i + k : Nat) : Int)) := by
  unfold rng2 lineN
  rw [if_pos (by omega)]
  congr 1
  rw [show ((j : Int) - i).toNat = j - i by omega]
  apply List.map_congr_left
  intro k _
  omega
def rg2 (i j : Int) : List Int := (List.range (j - i).toNat).map fun (k : Nat) => i + (k : Int)
theorem rng2_int {i j : Int} (h : -100000 ≤ i ∧ i ≤ 100000 ∧ -100000 ≤ j ∧ j ≤ 100000) : rng2 i j = some (rg2 i j) := by
  unfold rng2 lineN
  rw [if_pos (by omega)]; rfl
theorem mem_rg2 {i j x : Int} : x ∈ rg2 i j ↔ i ≤ x ∧ x < j := by
  unfold rg2
  simp only [List.mem_map, List.mem_range]
  constructor
  · rintro ⟨k, h1, h2⟩; omega
  · intro h; exact ⟨(x - i).toNat, by omega, by omega⟩
theorem rg2_length {i j : Int} : (rg2 i j).length = (j - i).toNat := by simp [rg2]
theorem rg2_pairwise {i j : Int} : (rg2 i j).Pairwise (· < ·) := by
  unfold rg2
  rw [List.pairwise_map]
  exact List.pairwise_lt_range.imp fun h => by omega
theorem rg_pairwise {n : Nat} : (rg n).Pairwise (· < ·) := by
  unfold rg
  rw [List.pairwise_map]
  exact List.pairwise_lt_range.imp fun h => by omega
theorem mem_rg_i {n : Nat} {x : Int} : x ∈ rg n ↔ 0 ≤ x ∧ x < n := by
  rw [mem_rg]
  constructor
  · rintro ⟨k, h1, h2⟩; omega
  · intro h; exact ⟨x.toNat, by omega, by omega⟩
theorem atI_nat {k : Nat} : L2.atI xs (k : Int) = xs[k]? := by
  unfold L2.atI L2.ixN
  rw [if_pos (by omega)]
  by_cases h : k < xs.length
  · rw [if_pos (by omega), Option.bind_some]; simp
  · rw [if_neg (by omega), List.getElem?_eq_none (by omega)]; rfl
theorem atI_zero : L2.atI xs 0 = xs[0]? := atI_nat (k := 0)
theorem atI_last : L2.atI xs (-1) = xs.getLast? := by
  unfold L2.atI L2.ixN
  rw [if_neg (by omega), List.getLast?_eq_getElem?]
  by_cases h : 0 < xs.length
  · rw [if_pos (by omega), Option.bind_some]
    congr 1
    omega
  · have : xs = [] := List.length_eq_zero_iff.mp (by omega)
    subst this
    rfl
theorem cutP_mid {i j : Nat} : cutP xs (some (i : Int)) (some (j : Int)) = (xs.drop i).take (j - i) := by
  unfold cutP
  rw [HT.sIx_nat, HT.sIx_nat]
  by_cases h : i ≤ xs.length
  · rw [Nat.min_eq_left h]
    by_cases h2 : j ≤ xs.length
    · rw [Nat.min_eq_left h2]
    · rw [Nat.min_eq_right (by omega), List.take_of_length_le (by rw [List.length_drop]; omega), List.take_of_length_le (by rw [List.length_drop]; omega)]
  · rw [Nat.min_eq_right (show xs.length ≤ i by omega), List.drop_of_length_le (i := xs.length) (by omega), List.drop_of_length_le (i := i) (by omega)]; simp
theorem cutP_from {k : Nat} : cutP xs (some (k : Int)) none = xs.drop k := by
  unfold cutP
  rw [HT.sIx_nat, HT.sIx_none]
  by_cases h : k ≤ xs.length
  · rw [Nat.min_eq_left h, List.take_of_length_le (by rw [List.length_drop]; omega)]
  · rw [Nat.min_eq_right (by omega), List.drop_of_length_le (by omega), List.drop_of_length_le (by omega)]; simp
theorem cutP_upto {k : Nat} : cutP xs none (some (k : Int)) = xs.take k := by
  unfold cutP
  rw [HT.sIx_nat, HT.sIx_none, List.drop_zero, Nat.sub_zero]
  by_cases h : k ≤ xs.length
  · rw [Nat.min_eq_left h]
  · rw [Nat.min_eq_right (by omega), List.take_of_length_le (by omega), List.take_of_length_le (by omega)]
theorem cutP_tail : cutP xs (some 1) none = xs.tail := by
  have := cutP_from (xs := xs) (k := 1)
  rw [← List.drop_one]; exact this
theorem getLast_D {d : α} (h : xs ≠ []) : xs.getLast? = some (xs.getLastD d) := by
  rw [List.getLastD_eq_getLast?]
  cases e : xs.getLast? with
  | none => exact absurd (List.getLast?_eq_none_iff.mp e) h
  | some v => rfl
theorem maxO_some {ns : List Int} (h : ns ≠ []) : maxO ns = some (maxL ns) := by
  unfold maxO
  rw [if_neg (by simpa using h)]
theorem minO_some {ns : List Int} (h : ns ≠ []) : minO ns = some (minL ns) := by
  unfold minO
  rw [if_neg (by simpa using h)]
theorem idxO_some [DecidableEq α] {x : α} (h : x ∈ xs) : ∃ j, idxO xs x = some j ∧ xs[j]? = some x ∧ ∀ m < j, xs[m]? ≠ some x := by
  induction xs with
  | nil => cases h
  | cons y ys ih =>
    unfold idxO
    by_cases e : y = x
    · subst e
      exact ⟨0, by rw [if_pos rfl], rfl, fun m hm => by omega⟩
    · rw [if_neg e]
      obtain ⟨j, h1, h2, h3⟩ := ih (by rcases List.mem_cons.mp h with h | h; exact absurd h.symm e; exact h)
      refine ⟨j + 1, by rw [h1]; rfl, by simpa using h2, fun m hm => ?_⟩
      cases m with
      | zero => simpa using e
      | succ m => simpa using h3 m (by omega)
end
end PL
set_option Elab.async false
set_option linter.all false
set_option maxRecDepth 100000
set_option maxHeartbeats 4000000
/-! PL12: the laws' own equality. -/
namespace PL
open PySem
def F_isL (g_ : FP) : PF := eLc (iZip2 (aCons (eVar 0) (aCons (eVar 1) aNil))) [2, 3] (gTp (gsCons (gNm 2) (gsCons (gNm 3) gsNil))) tTrue (eCall g_ (aCons (eVar 2) (aCons (eVar 3) aNil)))
def F_isS (g_ : FP) : FP := fnF 4 [false, false] (sSeq (sIf (tOf (eNary clIsi (aCons (ePk 1) (aCons (eTup (aCons (eC (.ty .tuple)) (aCons (eC (.ty .list)) aNil))) aNil)))) (sSeq (sIf (tOrF (tOf (eBin opNe (eNary clIsi (aCons (ePk 0) (aCons (eC (.ty .tuple)) aNil))) (eNary clIsi (aCons (ePk 1) (aCons (eC (.ty .tuple)) aNil))))) (tOf (eBin opNe (eNary clIsi (aCons (ePk 0) (aCons (eC (.ty .list)) aNil))) (eNary clIsi (aCons (ePk 1) (aCons (eC (.ty .list)) aNil)))))) (sRet (eC (.bl false))) sNil) (sRet (eAndF (eBin opEq (eNary clLen (aCons (ePk 0) aNil)) (eNary clLen (aCons (ePk 1) aNil))) (eNary clAll (aCons (F_isL g_) aNil))))) sNil) (sSeq (sIf (tOrF (tOf (eBin opIs2 (ePk 1) (eC .non))) (tOf (eBin opIs2 (ePk 0) (eC .non)))) (sRet (eAndF (eBin opIs2 (ePk 1) (eC .non)) (eBin opIs2 (ePk 0) (eC .non)))) sNil) (sSeq (sIf (tOrF (tOf (eBin opNe (eNary clIsi (aCons (ePk 0) (aCons (eC (.ty .bool)) aNil))) (eNary clIsi (aCons (ePk 1) (aCons (eC (.ty .bool)) aNil))))) (tOf (eBin opNe (eNary clIsi (aCons (ePk 0) (aCons (eC (.ty .int)) aNil))) (eNary clIsi (aCons (ePk 1) (aCons (eC (.ty .int)) aNil)))))) (sRet (eC (.bl false))) sNil) (sRet (eAndF (eBin opEq (eNary clIsi (aCons (ePk 0) (aCons (eC (.ty .str)) aNil))) (eNary clIsi (aCons (ePk 1) (aCons (eC (.ty .str)) aNil)))) (eBin opEq (ePk 0) (ePk 1)))))))
def F_isR : Nat → FP
  | 0 => fun _ => none
  | n + 1 => F_isS (F_isR n)
def F_isG : FP := F_isR 8
theorem eqP_ss (a b : Str) : eqP (.str a) (.str b) = (a == b) := by rw [eqP]
theorem datN_s (n : Nat) (a : Str) : datN n (.str a) = PyData.strOk a := by cases n <;> rfl
theorem zip_self : ∀ {xs : List PV} {p : PV}, p ∈ zipP xs xs → ∃ x, x ∈ xs ∧ p = .tup [x, x]
  | [], p, h => by simp [zipP] at h
  | x :: xs, p, h => by
    rw [zipP] at h
    rcases List.mem_cons.mp h with rfl | h
    · exact ⟨x, List.mem_cons_self, rfl⟩
    · obtain ⟨y, hy, e⟩ := zip_self h
      exact ⟨y, List.mem_cons_of_mem _ hy, e⟩
theorem bls_true : ∀ (xs : List PV), blsOf (xs.map fun _ => .bl true) = some (xs.map fun _ => true)
  | [] => rfl
  | x :: xs => by rw [List.map_cons, blsOf, bls_true xs]; rfl
theorem alls_true (xs : List PV) : (xs.map fun _ => true).all id = true := by simp
theorem isL_t {n : Nat} {xs : List PV} (ih : ∀ x ∈ xs, F_isR n [.fz x, .fz x] = some (.fz (.bl true), [.fz x, .fz x])) : F_isL (F_isR n) [.fz (.tup xs), .fz (.tup xs), .un, .un] = some (.own ((zipP xs xs).map fun _ => .bl true), [.fz (.tup xs), .fz (.tup xs), .un, .un]) := by
  refine eLc_map (items := zipP xs xs) (rs := [.fz (.tup xs), .fz (.tup xs)]) (fun _ => .bl true) (by simp [fnF, prepP, finP, sNil, sSeq, sIf, sRet, sRetN, sExpr, sSet, sPar, sPar3, sAsg, sSetIx, sFor, gNm, gTp, gsNil, gsCons, eVar, ePk, eMv, eBor, eC, eBin, eNeg, eAndF, eOrF, eNotF, eIf, eChain, eTup, eLst, eNary, eCall, eMeth, eMake, eFld, eSl, oSome, oNone, aNil, aCons, tOf, tAndF, tOrF, tNotF, cont, conts, tmpOf, valOf, valsOf, toVl, Vl.sl, putB, iSeq, seqOf, iRange1, iRange2, iZip2, iZip3, iEnum, opAdd, opSub, opMul, opMod, opFdiv, opPow, opEq, opNe, opLt, opLe, opGt, opGe, opCmp, opIs, opIsNot, opIx, opSl, isNon, clLen, clAbs, clInt, clMax, clMin, clMax2, clMin2, clSum, clSum2, clAll, clAny, clTuple, clList, clIsi, isTy, isAny, tyP, subTy, eAppend, eExtend, datN_i, datN_n, datN_b, datN_l, datN_t, datNs_Ints, datNs_nil, eqP_ii, eqP_ll, eqP_tt, eqP_nn, eqP_bb, eqPs_Ints, eqPs_nn, eqPs_nc, eqPs_cn, lineN, opIs2, opIsN2, opIsB, opIsNB]) (by simp [fnF, prepP, finP, sNil, sSeq, sIf, sRet, sRetN, sExpr, sSet, sPar, sPar3, sAsg, sSetIx, sFor, gNm, gTp, gsNil, gsCons, eVar, ePk, eMv, eBor, eC, eBin, eNeg, eAndF, eOrF, eNotF, eIf, eChain, eTup, eLst, eNary, eCall, eMeth, eMake, eFld, eSl, oSome, oNone, aNil, aCons, tOf, tAndF, tOrF, tNotF, cont, conts, tmpOf, valOf, valsOf, toVl, Vl.sl, putB, iSeq, seqOf, iRange1, iRange2, iZip2, iZip3, iEnum, opAdd, opSub, opMul, opMod, opFdiv, opPow, opEq, opNe, opLt, opLe, opGt, opGe, opCmp, opIs, opIsNot, opIx, opSl, isNon, clLen, clAbs, clInt, clMax, clMin, clMax2, clMin2, clSum, clSum2, clAll, clAny, clTuple, clList, clIsi, isTy, isAny, tyP, subTy, eAppend, eExtend, datN_i, datN_n, datN_b, datN_l, datN_t, datNs_Ints, datNs_nil, eqP_ii, eqP_ll, eqP_tt, eqP_nn, eqP_bb, eqPs_Ints, eqPs_nn, eqPs_nc, eqPs_cn, lineN, opIs2, opIsN2, opIsB, opIsNB]) (by decide) (by simp) fun z hz => ?_
  obtain ⟨x, hx, rfl⟩ := zip_self hz
  refine ⟨[.fz x, .fz x], .fz (.bl true), [.fz x, .fz x], ?_⟩
  simp [fnF, prepP, finP, sNil, sSeq, sIf, sRet, sRetN, sExpr, sSet, sPar, sPar3, sAsg, sSetIx, sFor, gNm, gTp, gsNil, gsCons, eVar, ePk, eMv, eBor, eC, eBin, eNeg, eAndF, eOrF, eNotF, eIf, eChain, eTup, eLst, eNary, eCall, eMeth, eMake, eFld, eSl, oSome, oNone, aNil, aCons, tOf, tAndF, tOrF, tNotF, cont, conts, tmpOf, valOf, valsOf, toVl, Vl.sl, putB, iSeq, seqOf, iRange1, iRange2, iZip2, iZip3, iEnum, opAdd, opSub, opMul, opMod, opFdiv, opPow, opEq, opNe, opLt, opLe, opGt, opGe, opCmp, opIs, opIsNot, opIx, opSl, isNon, clLen, clAbs, clInt, clMax, clMin, clMax2, clMin2, clSum, clSum2, clAll, clAny, clTuple, clList, clIsi, isTy, isAny, tyP, subTy, eAppend, eExtend, datN_i, datN_n, datN_b, datN_l, datN_t, datNs_Ints, datNs_nil, eqP_ii, eqP_ll, eqP_tt, eqP_nn, eqP_bb, eqPs_Ints, eqPs_nn, eqPs_nc, eqPs_cn, lineN, opIs2, opIsN2, opIsB, opIsNB, wipeS, backS, ih x hx]
theorem isL_l {n : Nat} {xs : List PV} (ih : ∀ x ∈ xs, F_isR n [.fz x, .fz x] = some (.fz (.bl true), [.fz x, .fz x])) : F_isL (F_isR n) [.fz (.lst xs), .fz (.lst xs), .un, .un] = some (.own ((zipP xs xs).map fun _ => .bl true), [.fz (.lst xs), .fz (.lst xs), .un, .un]) := by
  refine eLc_map (items := zipP xs xs) (rs := [.fz (.lst xs), .fz (.lst xs)]) (fun _ => .bl true) (by simp [fnF, prepP, finP, sNil, sSeq, sIf, sRet, sRetN, sExpr, sSet, sPar, sPar3, sAsg, sSetIx, sFor, gNm, gTp, gsNil, gsCons, eVar, ePk, eMv, eBor, eC, eBin, eNeg, eAndF, eOrF, eNotF, eIf, eChain, eTup, eLst, eNary, eCall, eMeth, eMake, eFld, eSl, oSome, oNone, aNil, aCons, tOf, tAndF, tOrF, tNotF, cont, conts, tmpOf, valOf, valsOf, toVl, Vl.sl, putB, iSeq, seqOf, iRange1, iRange2, iZip2, iZip3, iEnum, opAdd, opSub, opMul, opMod, opFdiv, opPow, opEq, opNe, opLt, opLe, opGt, opGe, opCmp, opIs, opIsNot, opIx, opSl, isNon, clLen, clAbs, clInt, clMax, clMin, clMax2, clMin2, clSum, clSum2, clAll, clAny, clTuple, clList, clIsi, isTy, isAny, tyP, subTy, eAppend, eExtend, datN_i, datN_n, datN_b, datN_l, datN_t, datNs_Ints, datNs_nil, eqP_ii, eqP_ll, eqP_tt, eqP_nn, eqP_bb, eqPs_Ints, eqPs_nn, eqPs_nc, eqPs_cn, lineN, opIs2, opIsN2, opIsB, opIsNB]) (by simp [fnF, prepP, finP, sNil, sSeq, sIf, sRet, sRetN, sExpr, sSet, sPar, sPar3, sAsg, sSetIx, sFor, gNm, gTp, gsNil, gsCons, eVar, ePk, eMv, eBor, eC, eBin, eNeg, eAndF, eOrF, eNotF, eIf, eChain, eTup, eLst, eNary, eCall, eMeth, eMake, eFld, eSl, oSome, oNone, aNil, aCons, tOf, tAndF, tOrF, tNotF, cont, conts, tmpOf, valOf, valsOf, toVl, Vl.sl, putB, iSeq, seqOf, iRange1, iRange2, iZip2, iZip3, iEnum, opAdd, opSub, opMul, opMod, opFdiv, opPow, opEq, opNe, opLt, opLe, opGt, opGe, opCmp, opIs, opIsNot, opIx, opSl, isNon, clLen, clAbs, clInt, clMax, clMin, clMax2, clMin2, clSum, clSum2, clAll, clAny, clTuple, clList, clIsi, isTy, isAny, tyP, subTy, eAppend, eExtend, datN_i, datN_n, datN_b, datN_l, datN_t, datNs_Ints, datNs_nil, eqP_ii, eqP_ll, eqP_tt, eqP_nn, eqP_bb, eqPs_Ints, eqPs_nn, eqPs_nc, eqPs_cn, lineN, opIs2, opIsN2, opIsB, opIsNB]) (by decide) (by simp) fun z hz => ?_
  obtain ⟨x, hx, rfl⟩ := zip_self hz
  refine ⟨[.fz x, .fz x], .fz (.bl true), [.fz x, .fz x], ?_⟩
  simp [fnF, prepP, finP, sNil, sSeq, sIf, sRet, sRetN, sExpr, sSet, sPar, sPar3, sAsg, sSetIx, sFor, gNm, gTp, gsNil, gsCons, eVar, ePk, eMv, eBor, eC, eBin, eNeg, eAndF, eOrF, eNotF, eIf, eChain, eTup, eLst, eNary, eCall, eMeth, eMake, eFld, eSl, oSome, oNone, aNil, aCons, tOf, tAndF, tOrF, tNotF, cont, conts, tmpOf, valOf, valsOf, toVl, Vl.sl, putB, iSeq, seqOf, iRange1, iRange2, iZip2, iZip3, iEnum, opAdd, opSub, opMul, opMod, opFdiv, opPow, opEq, opNe, opLt, opLe, opGt, opGe, opCmp, opIs, opIsNot, opIx, opSl, isNon, clLen, clAbs, clInt, clMax, clMin, clMax2, clMin2, clSum, clSum2, clAll, clAny, clTuple, clList, clIsi, isTy, isAny, tyP, subTy, eAppend, eExtend, datN_i, datN_n, datN_b, datN_l, datN_t, datNs_Ints, datNs_nil, eqP_ii, eqP_ll, eqP_tt, eqP_nn, eqP_bb, eqPs_Ints, eqPs_nn, eqPs_nc, eqPs_cn, lineN, opIs2, opIsN2, opIsB, opIsNB, wipeS, backS, ih x hx]
theorem isL_ol {n : Nat} {xs : List PV} (ih : ∀ x ∈ xs, F_isR n [.fz x, .fz x] = some (.fz (.bl true), [.fz x, .fz x])) : F_isL (F_isR n) [.own xs, .fz (.lst xs), .un, .un] = some (.own ((zipP xs xs).map fun _ => .bl true), [.fz (.lst xs), .fz (.lst xs), .un, .un]) := by
  refine eLc_map (items := zipP xs xs) (rs := [.fz (.lst xs), .fz (.lst xs)]) (fun _ => .bl true) (by simp [fnF, prepP, finP, sNil, sSeq, sIf, sRet, sRetN, sExpr, sSet, sPar, sPar3, sAsg, sSetIx, sFor, gNm, gTp, gsNil, gsCons, eVar, ePk, eMv, eBor, eC, eBin, eNeg, eAndF, eOrF, eNotF, eIf, eChain, eTup, eLst, eNary, eCall, eMeth, eMake, eFld, eSl, oSome, oNone, aNil, aCons, tOf, tAndF, tOrF, tNotF, cont, conts, tmpOf, valOf, valsOf, toVl, Vl.sl, putB, iSeq, seqOf, iRange1, iRange2, iZip2, iZip3, iEnum, opAdd, opSub, opMul, opMod, opFdiv, opPow, opEq, opNe, opLt, opLe, opGt, opGe, opCmp, opIs, opIsNot, opIx, opSl, isNon, clLen, clAbs, clInt, clMax, clMin, clMax2, clMin2, clSum, clSum2, clAll, clAny, clTuple, clList, clIsi, isTy, isAny, tyP, subTy, eAppend, eExtend, datN_i, datN_n, datN_b, datN_l, datN_t, datNs_Ints, datNs_nil, eqP_ii, eqP_ll, eqP_tt, eqP_nn, eqP_bb, eqPs_Ints, eqPs_nn, eqPs_nc, eqPs_cn, lineN, opIs2, opIsN2, opIsB, opIsNB]) (by simp [fnF, prepP, finP, sNil, sSeq, sIf, sRet, sRetN, sExpr, sSet, sPar, sPar3, sAsg, sSetIx, sFor, gNm, gTp, gsNil, gsCons, eVar, ePk, eMv, eBor, eC, eBin, eNeg, eAndF, eOrF, eNotF, eIf, eChain, eTup, eLst, eNary, eCall, eMeth, eMake, eFld, eSl, oSome, oNone, aNil, aCons, tOf, tAndF, tOrF, tNotF, cont, conts, tmpOf, valOf, valsOf, toVl, Vl.sl, putB, iSeq, seqOf, iRange1, iRange2, iZip2, iZip3, iEnum, opAdd, opSub, opMul, opMod, opFdiv, opPow, opEq, opNe, opLt, opLe, opGt, opGe, opCmp, opIs, opIsNot, opIx, opSl, isNon, clLen, clAbs, clInt, clMax, clMin, clMax2, clMin2, clSum, clSum2, clAll, clAny, clTuple, clList, clIsi, isTy, isAny, tyP, subTy, eAppend, eExtend, datN_i, datN_n, datN_b, datN_l, datN_t, datNs_Ints, datNs_nil, eqP_ii, eqP_ll, eqP_tt, eqP_nn, eqP_bb, eqPs_Ints, eqPs_nn, eqPs_nc, eqPs_cn, lineN, opIs2, opIsN2, opIsB, opIsNB]) (by decide) (by simp) fun z hz => ?_
  obtain ⟨x, hx, rfl⟩ := zip_self hz
  refine ⟨[.fz x, .fz x], .fz (.bl true), [.fz x, .fz x], ?_⟩
  simp [fnF, prepP, finP, sNil, sSeq, sIf, sRet, sRetN, sExpr, sSet, sPar, sPar3, sAsg, sSetIx, sFor, gNm, gTp, gsNil, gsCons, eVar, ePk, eMv, eBor, eC, eBin, eNeg, eAndF, eOrF, eNotF, eIf, eChain, eTup, eLst, eNary, eCall, eMeth, eMake, eFld, eSl, oSome, oNone, aNil, aCons, tOf, tAndF, tOrF, tNotF, cont, conts, tmpOf, valOf, valsOf, toVl, Vl.sl, putB, iSeq, seqOf, iRange1, iRange2, iZip2, iZip3, iEnum, opAdd, opSub, opMul, opMod, opFdiv, opPow, opEq, opNe, opLt, opLe, opGt, opGe, opCmp, opIs, opIsNot, opIx, opSl, isNon, clLen, clAbs, clInt, clMax, clMin, clMax2, clMin2, clSum, clSum2, clAll, clAny, clTuple, clList, clIsi, isTy, isAny, tyP, subTy, eAppend, eExtend, datN_i, datN_n, datN_b, datN_l, datN_t, datNs_Ints, datNs_nil, eqP_ii, eqP_ll, eqP_tt, eqP_nn, eqP_bb, eqPs_Ints, eqPs_nn, eqPs_nc, eqPs_cn, lineN, opIs2, opIsN2, opIsB, opIsNB, wipeS, backS, ih x hx]
theorem isL_lo {n : Nat} {xs : List PV} (ih : ∀ x ∈ xs, F_isR n [.fz x, .fz x] = some (.fz (.bl true), [.fz x, .fz x])) : F_isL (F_isR n) [.fz (.lst xs), .own xs, .un, .un] = some (.own ((zipP xs xs).map fun _ => .bl true), [.fz (.lst xs), .fz (.lst xs), .un, .un]) := by
  refine eLc_map (items := zipP xs xs) (rs := [.fz (.lst xs), .fz (.lst xs)]) (fun _ => .bl true) (by simp [fnF, prepP, finP, sNil, sSeq, sIf, sRet, sRetN, sExpr, sSet, sPar, sPar3, sAsg, sSetIx, sFor, gNm, gTp, gsNil, gsCons, eVar, ePk, eMv, eBor, eC, eBin, eNeg, eAndF, eOrF, eNotF, eIf, eChain, eTup, eLst, eNary, eCall, eMeth, eMake, eFld, eSl, oSome, oNone, aNil, aCons, tOf, tAndF, tOrF, tNotF, cont, conts, tmpOf, valOf, valsOf, toVl, Vl.sl, putB, iSeq, seqOf, iRange1, iRange2, iZip2, iZip3, iEnum, opAdd, opSub, opMul, opMod, opFdiv, opPow, opEq, opNe, opLt, opLe, opGt, opGe, opCmp, opIs, opIsNot, opIx, opSl, isNon, clLen, clAbs, clInt, clMax, clMin, clMax2, clMin2, clSum, clSum2, clAll, clAny, clTuple, clList, clIsi, isTy, isAny, tyP, subTy, eAppend, eExtend, datN_i, datN_n, datN_b, datN_l, datN_t, datNs_Ints, datNs_nil, eqP_ii, eqP_ll, eqP_tt, eqP_nn, eqP_bb, eqPs_Ints, eqPs_nn, eqPs_nc, eqPs_cn, lineN, opIs2, opIsN2, opIsB, opIsNB]) (by simp [fnF, prepP, finP, sNil, sSeq, sIf, sRet, sRetN, sExpr, sSet, sPar, sPar3, sAsg, sSetIx, sFor, gNm, gTp, gsNil, gsCons, eVar, ePk, eMv, eBor, eC, eBin, eNeg, eAndF, eOrF, eNotF, eIf, eChain, eTup, eLst, eNary, eCall, eMeth, eMake, eFld, eSl, oSome, oNone, aNil, aCons, tOf, tAndF, tOrF, tNotF, cont, conts, tmpOf, valOf, valsOf, toVl, Vl.sl, putB, iSeq, seqOf, iRange1, iRange2, iZip2, iZip3, iEnum, opAdd, opSub, opMul, opMod, opFdiv, opPow, opEq, opNe, opLt, opLe, opGt, opGe, opCmp, opIs, opIsNot, opIx, opSl, isNon, clLen, clAbs, clInt, clMax, clMin, clMax2, clMin2, clSum, clSum2, clAll, clAny, clTuple, clList, clIsi, isTy, isAny, tyP, subTy, eAppend, eExtend, datN_i, datN_n, datN_b, datN_l, datN_t, datNs_Ints, datNs_nil, eqP_ii, eqP_ll, eqP_tt, eqP_nn, eqP_bb, eqPs_Ints, eqPs_nn, eqPs_nc, eqPs_cn, lineN, opIs2, opIsN2, opIsB, opIsNB]) (by decide) (by simp) fun z hz => ?_
  obtain ⟨x, hx, rfl⟩ := zip_self hz
  refine ⟨[.fz x, .fz x], .fz (.bl true), [.fz x, .fz x], ?_⟩
  simp [fnF, prepP, finP, sNil, sSeq, sIf, sRet, sRetN, sExpr, sSet, sPar, sPar3, sAsg, sSetIx, sFor, gNm, gTp, gsNil, gsCons, eVar, ePk, eMv, eBor, eC, eBin, eNeg, eAndF, eOrF, eNotF, eIf, eChain, eTup, eLst, eNary, eCall, eMeth, eMake, eFld, eSl, oSome, oNone, aNil, aCons, tOf, tAndF, tOrF, tNotF, cont, conts, tmpOf, valOf, valsOf, toVl, Vl.sl, putB, iSeq, seqOf, iRange1, iRange2, iZip2, iZip3, iEnum, opAdd, opSub, opMul, opMod, opFdiv, opPow, opEq, opNe, opLt, opLe, opGt, opGe, opCmp, opIs, opIsNot, opIx, opSl, isNon, clLen, clAbs, clInt, clMax, clMin, clMax2, clMin2, clSum, clSum2, clAll, clAny, clTuple, clList, clIsi, isTy, isAny, tyP, subTy, eAppend, eExtend, datN_i, datN_n, datN_b, datN_l, datN_t, datNs_Ints, datNs_nil, eqP_ii, eqP_ll, eqP_tt, eqP_nn, eqP_bb, eqPs_Ints, eqPs_nn, eqPs_nc, eqPs_cn, lineN, opIs2, opIsN2, opIsB, opIsNB, wipeS, backS, ih x hx]
theorem isL_oo {n : Nat} {xs : List PV} (ih : ∀ x ∈ xs, F_isR n [.fz x, .fz x] = some (.fz (.bl true), [.fz x, .fz x])) : F_isL (F_isR n) [.own xs, .own xs, .un, .un] = some (.own ((zipP xs xs).map fun _ => .bl true), [.fz (.lst xs), .fz (.lst xs), .un, .un]) := by
  refine eLc_map (items := zipP xs xs) (rs := [.fz (.lst xs), .fz (.lst xs)]) (fun _ => .bl true) (by simp [fnF, prepP, finP, sNil, sSeq, sIf, sRet, sRetN, sExpr, sSet, sPar, sPar3, sAsg, sSetIx, sFor, gNm, gTp, gsNil, gsCons, eVar, ePk, eMv, eBor, eC, eBin, eNeg, eAndF, eOrF, eNotF, eIf, eChain, eTup, eLst, eNary, eCall, eMeth, eMake, eFld, eSl, oSome, oNone, aNil, aCons, tOf, tAndF, tOrF, tNotF, cont, conts, tmpOf, valOf, valsOf, toVl, Vl.sl, putB, iSeq, seqOf, iRange1, iRange2, iZip2, iZip3, iEnum, opAdd, opSub, opMul, opMod, opFdiv, opPow, opEq, opNe, opLt, opLe, opGt, opGe, opCmp, opIs, opIsNot, opIx, opSl, isNon, clLen, clAbs, clInt, clMax, clMin, clMax2, clMin2, clSum, clSum2, clAll, clAny, clTuple, clList, clIsi, isTy, isAny, tyP, subTy, eAppend, eExtend, datN_i, datN_n, datN_b, datN_l, datN_t, datNs_Ints, datNs_nil, eqP_ii, eqP_ll, eqP_tt, eqP_nn, eqP_bb, eqPs_Ints, eqPs_nn, eqPs_nc, eqPs_cn, lineN, opIs2, opIsN2, opIsB, opIsNB]) (by simp [fnF, prepP, finP, sNil, sSeq, sIf, sRet, sRetN, sExpr, sSet, sPar, sPar3, sAsg, sSetIx, sFor, gNm, gTp, gsNil, gsCons, eVar, ePk, eMv, eBor, eC, eBin, eNeg, eAndF, eOrF, eNotF, eIf, eChain, eTup, eLst, eNary, eCall, eMeth, eMake, eFld, eSl, oSome, oNone, aNil, aCons, tOf, tAndF, tOrF, tNotF, cont, conts, tmpOf, valOf, valsOf, toVl, Vl.sl, putB, iSeq, seqOf, iRange1, iRange2, iZip2, iZip3, iEnum, opAdd, opSub, opMul, opMod, opFdiv, opPow, opEq, opNe, opLt, opLe, opGt, opGe, opCmp, opIs, opIsNot, opIx, opSl, isNon, clLen, clAbs, clInt, clMax, clMin, clMax2, clMin2, clSum, clSum2, clAll, clAny, clTuple, clList, clIsi, isTy, isAny, tyP, subTy, eAppend, eExtend, datN_i, datN_n, datN_b, datN_l, datN_t, datNs_Ints, datNs_nil, eqP_ii, eqP_ll, eqP_tt, eqP_nn, eqP_bb, eqPs_Ints, eqPs_nn, eqPs_nc, eqPs_cn, lineN, opIs2, opIsN2, opIsB, opIsNB]) (by decide) (by simp) fun z hz => ?_
  obtain ⟨x, hx, rfl⟩ := zip_self hz
  refine ⟨[.fz x, .fz x], .fz (.bl true), [.fz x, .fz x], ?_⟩
  simp [fnF, prepP, finP, sNil, sSeq, sIf, sRet, sRetN, sExpr, sSet, sPar, sPar3, sAsg, sSetIx, sFor, gNm, gTp, gsNil, gsCons, eVar, ePk, eMv, eBor, eC, eBin, eNeg, eAndF, eOrF, eNotF, eIf, eChain, eTup, eLst, eNary, eCall, eMeth, eMake, eFld, eSl, oSome, oNone, aNil, aCons, tOf, tAndF, tOrF, tNotF, cont, conts, tmpOf, valOf, valsOf, toVl, Vl.sl, putB, iSeq, seqOf, iRange1, iRange2, iZip2, iZip3, iEnum, opAdd, opSub, opMul, opMod, opFdiv, opPow, opEq, opNe, opLt, opLe, opGt, opGe, opCmp, opIs, opIsNot, opIx, opSl, isNon, clLen, clAbs, clInt, clMax, clMin, clMax2, clMin2, clSum, clSum2, clAll, clAny, clTuple, clList, clIsi, isTy, isAny, tyP, subTy, eAppend, eExtend, datN_i, datN_n, datN_b, datN_l, datN_t, datNs_Ints, datNs_nil, eqP_ii, eqP_ll, eqP_tt, eqP_nn, eqP_bb, eqPs_Ints, eqPs_nn, eqPs_nc, eqPs_cn, lineN, opIs2, opIsN2, opIsB, opIsNB, wipeS, backS, ih x hx]
theorem isR_refl : ∀ (n : Nat) (p : PV), datN n p = true → F_isR (n + 1) [.fz p, .fz p] = some (.fz (.bl true), [.fz p, .fz p]) := by
  intro n
  induction n with
  | zero =>
    intro p h
    cases p with
    | non => simp [F_isR, F_isS, fnF, prepP, finP, sNil, sSeq, sIf, sRet, sRetN, sExpr, sSet, sPar, sPar3, sAsg, sSetIx, sFor, gNm, gTp, gsNil, gsCons, eVar, ePk, eMv, eBor, eC, eBin, eNeg, eAndF, eOrF, eNotF, eIf, eChain, eTup, eLst, eNary, eCall, eMeth, eMake, eFld, eSl, oSome, oNone, aNil, aCons, tOf, tAndF, tOrF, tNotF, cont, conts, tmpOf, valOf, valsOf, toVl, Vl.sl, putB, iSeq, seqOf, iRange1, iRange2, iZip2, iZip3, iEnum, opAdd, opSub, opMul, opMod, opFdiv, opPow, opEq, opNe, opLt, opLe, opGt, opGe, opCmp, opIs, opIsNot, opIx, opSl, isNon, clLen, clAbs, clInt, clMax, clMin, clMax2, clMin2, clSum, clSum2, clAll, clAny, clTuple, clList, clIsi, isTy, isAny, tyP, subTy, eAppend, eExtend, datN_i, datN_n, datN_b, datN_l, datN_t, datNs_Ints, datNs_nil, eqP_ii, eqP_ll, eqP_tt, eqP_nn, eqP_bb, eqPs_Ints, eqPs_nn, eqPs_nc, eqPs_cn, lineN, opIs2, opIsN2, opIsB, opIsNB]
    | bl b => simp [F_isR, F_isS, fnF, prepP, finP, sNil, sSeq, sIf, sRet, sRetN, sExpr, sSet, sPar, sPar3, sAsg, sSetIx, sFor, gNm, gTp, gsNil, gsCons, eVar, ePk, eMv, eBor, eC, eBin, eNeg, eAndF, eOrF, eNotF, eIf, eChain, eTup, eLst, eNary, eCall, eMeth, eMake, eFld, eSl, oSome, oNone, aNil, aCons, tOf, tAndF, tOrF, tNotF, cont, conts, tmpOf, valOf, valsOf, toVl, Vl.sl, putB, iSeq, seqOf, iRange1, iRange2, iZip2, iZip3, iEnum, opAdd, opSub, opMul, opMod, opFdiv, opPow, opEq, opNe, opLt, opLe, opGt, opGe, opCmp, opIs, opIsNot, opIx, opSl, isNon, clLen, clAbs, clInt, clMax, clMin, clMax2, clMin2, clSum, clSum2, clAll, clAny, clTuple, clList, clIsi, isTy, isAny, tyP, subTy, eAppend, eExtend, datN_i, datN_n, datN_b, datN_l, datN_t, datNs_Ints, datNs_nil, eqP_ii, eqP_ll, eqP_tt, eqP_nn, eqP_bb, eqPs_Ints, eqPs_nn, eqPs_nc, eqPs_cn, lineN, opIs2, opIsN2, opIsB, opIsNB]
    | int i => simp [F_isR, F_isS, fnF, prepP, finP, sNil, sSeq, sIf, sRet, sRetN, sExpr, sSet, sPar, sPar3, sAsg, sSetIx, sFor, gNm, gTp, gsNil, gsCons, eVar, ePk, eMv, eBor, eC, eBin, eNeg, eAndF, eOrF, eNotF, eIf, eChain, eTup, eLst, eNary, eCall, eMeth, eMake, eFld, eSl, oSome, oNone, aNil, aCons, tOf, tAndF, tOrF, tNotF, cont, conts, tmpOf, valOf, valsOf, toVl, Vl.sl, putB, iSeq, seqOf, iRange1, iRange2, iZip2, iZip3, iEnum, opAdd, opSub, opMul, opMod, opFdiv, opPow, opEq, opNe, opLt, opLe, opGt, opGe, opCmp, opIs, opIsNot, opIx, opSl, isNon, clLen, clAbs, clInt, clMax, clMin, clMax2, clMin2, clSum, clSum2, clAll, clAny, clTuple, clList, clIsi, isTy, isAny, tyP, subTy, eAppend, eExtend, datN_i, datN_n, datN_b, datN_l, datN_t, datNs_Ints, datNs_nil, eqP_ii, eqP_ll, eqP_tt, eqP_nn, eqP_bb, eqPs_Ints, eqPs_nn, eqPs_nc, eqPs_cn, lineN, opIs2, opIsN2, opIsB, opIsNB]
    | str x => 
      rw [datN_s] at h
      simp [F_isR, F_isS, fnF, prepP, finP, sNil, sSeq, sIf, sRet, sRetN, sExpr, sSet, sPar, sPar3, sAsg, sSetIx, sFor, gNm, gTp, gsNil, gsCons, eVar, ePk, eMv, eBor, eC, eBin, eNeg, eAndF, eOrF, eNotF, eIf, eChain, eTup, eLst, eNary, eCall, eMeth, eMake, eFld, eSl, oSome, oNone, aNil, aCons, tOf, tAndF, tOrF, tNotF, cont, conts, tmpOf, valOf, valsOf, toVl, Vl.sl, putB, iSeq, seqOf, iRange1, iRange2, iZip2, iZip3, iEnum, opAdd, opSub, opMul, opMod, opFdiv, opPow, opEq, opNe, opLt, opLe, opGt, opGe, opCmp, opIs, opIsNot, opIx, opSl, isNon, clLen, clAbs, clInt, clMax, clMin, clMax2, clMin2, clSum, clSum2, clAll, clAny, clTuple, clList, clIsi, isTy, isAny, tyP, subTy, eAppend, eExtend, datN_i, datN_n, datN_b, datN_l, datN_t, datNs_Ints, datNs_nil, eqP_ii, eqP_ll, eqP_tt, eqP_nn, eqP_bb, eqPs_Ints, eqPs_nn, eqPs_nc, eqPs_cn, lineN, opIs2, opIsN2, opIsB, opIsNB, eqP_ss, datN_s, h]
    | _ => simp [datN] at h
  | succ n ih =>
    intro p h
    have hs : ∀ xs, datNs n xs = true → ∀ x ∈ xs, F_isR (n + 1) [.fz x, .fz x] = some (.fz (.bl true), [.fz x, .fz x]) := fun xs hd x hx => ih x (by rw [datNs_all] at hd; exact List.all_eq_true.mp hd x hx)
    cases p with
    | non => simp [F_isR, F_isS, fnF, prepP, finP, sNil, sSeq, sIf, sRet, sRetN, sExpr, sSet, sPar, sPar3, sAsg, sSetIx, sFor, gNm, gTp, gsNil, gsCons, eVar, ePk, eMv, eBor, eC, eBin, eNeg, eAndF, eOrF, eNotF, eIf, eChain, eTup, eLst, eNary, eCall, eMeth, eMake, eFld, eSl, oSome, oNone, aNil, aCons, tOf, tAndF, tOrF, tNotF, cont, conts, tmpOf, valOf, valsOf, toVl, Vl.sl, putB, iSeq, seqOf, iRange1, iRange2, iZip2, iZip3, iEnum, opAdd, opSub, opMul, opMod, opFdiv, opPow, opEq, opNe, opLt, opLe, opGt, opGe, opCmp, opIs, opIsNot, opIx, opSl, isNon, clLen, clAbs, clInt, clMax, clMin, clMax2, clMin2, clSum, clSum2, clAll, clAny, clTuple, clList, clIsi, isTy, isAny, tyP, subTy, eAppend, eExtend, datN_i, datN_n, datN_b, datN_l, datN_t, datNs_Ints, datNs_nil, eqP_ii, eqP_ll, eqP_tt, eqP_nn, eqP_bb, eqPs_Ints, eqPs_nn, eqPs_nc, eqPs_cn, lineN, opIs2, opIsN2, opIsB, opIsNB]
    | bl b => simp [F_isR, F_isS, fnF, prepP, finP, sNil, sSeq, sIf, sRet, sRetN, sExpr, sSet, sPar, sPar3, sAsg, sSetIx, sFor, gNm, gTp, gsNil, gsCons, eVar, ePk, eMv, eBor, eC, eBin, eNeg, eAndF, eOrF, eNotF, eIf, eChain, eTup, eLst, eNary, eCall, eMeth, eMake, eFld, eSl, oSome, oNone, aNil, aCons, tOf, tAndF, tOrF, tNotF, cont, conts, tmpOf, valOf, valsOf, toVl, Vl.sl, putB, iSeq, seqOf, iRange1, iRange2, iZip2, iZip3, iEnum, opAdd, opSub, opMul, opMod, opFdiv, opPow, opEq, opNe, opLt, opLe, opGt, opGe, opCmp, opIs, opIsNot, opIx, opSl, isNon, clLen, clAbs, clInt, clMax, clMin, clMax2, clMin2, clSum, clSum2, clAll, clAny, clTuple, clList, clIsi, isTy, isAny, tyP, subTy, eAppend, eExtend, datN_i, datN_n, datN_b, datN_l, datN_t, datNs_Ints, datNs_nil, eqP_ii, eqP_ll, eqP_tt, eqP_nn, eqP_bb, eqPs_Ints, eqPs_nn, eqPs_nc, eqPs_cn, lineN, opIs2, opIsN2, opIsB, opIsNB]
    | int i => simp [F_isR, F_isS, fnF, prepP, finP, sNil, sSeq, sIf, sRet, sRetN, sExpr, sSet, sPar, sPar3, sAsg, sSetIx, sFor, gNm, gTp, gsNil, gsCons, eVar, ePk, eMv, eBor, eC, eBin, eNeg, eAndF, eOrF, eNotF, eIf, eChain, eTup, eLst, eNary, eCall, eMeth, eMake, eFld, eSl, oSome, oNone, aNil, aCons, tOf, tAndF, tOrF, tNotF, cont, conts, tmpOf, valOf, valsOf, toVl, Vl.sl, putB, iSeq, seqOf, iRange1, iRange2, iZip2, iZip3, iEnum, opAdd, opSub, opMul, opMod, opFdiv, opPow, opEq, opNe, opLt, opLe, opGt, opGe, opCmp, opIs, opIsNot, opIx, opSl, isNon, clLen, clAbs, clInt, clMax, clMin, clMax2, clMin2, clSum, clSum2, clAll, clAny, clTuple, clList, clIsi, isTy, isAny, tyP, subTy, eAppend, eExtend, datN_i, datN_n, datN_b, datN_l, datN_t, datNs_Ints, datNs_nil, eqP_ii, eqP_ll, eqP_tt, eqP_nn, eqP_bb, eqPs_Ints, eqPs_nn, eqPs_nc, eqPs_cn, lineN, opIs2, opIsN2, opIsB, opIsNB]
    | str x => 
      rw [datN_s] at h
      simp [F_isR, F_isS, fnF, prepP, finP, sNil, sSeq, sIf, sRet, sRetN, sExpr, sSet, sPar, sPar3, sAsg, sSetIx, sFor, gNm, gTp, gsNil, gsCons, eVar, ePk, eMv, eBor, eC, eBin, eNeg, eAndF, eOrF, eNotF, eIf, eChain, eTup, eLst, eNary, eCall, eMeth, eMake, eFld, eSl, oSome, oNone, aNil, aCons, tOf, tAndF, tOrF, tNotF, cont, conts, tmpOf, valOf, valsOf, toVl, Vl.sl, putB, iSeq, seqOf, iRange1, iRange2, iZip2, iZip3, iEnum, opAdd, opSub, opMul, opMod, opFdiv, opPow, opEq, opNe, opLt, opLe, opGt, opGe, opCmp, opIs, opIsNot, opIx, opSl, isNon, clLen, clAbs, clInt, clMax, clMin, clMax2, clMin2, clSum, clSum2, clAll, clAny, clTuple, clList, clIsi, isTy, isAny, tyP, subTy, eAppend, eExtend, datN_i, datN_n, datN_b, datN_l, datN_t, datNs_Ints, datNs_nil, eqP_ii, eqP_ll, eqP_tt, eqP_nn, eqP_bb, eqPs_Ints, eqPs_nn, eqPs_nc, eqPs_cn, lineN, opIs2, opIsN2, opIsB, opIsNB, eqP_ss, datN_s, h]
    | tup xs =>
      have e := isL_t (hs xs h)
      rw [show n + 1 + 1 = (n + 1) + 1 from rfl]
      unfold F_isR
      simp [F_isS, fnF, prepP, finP, sNil, sSeq, sIf, sRet, sRetN, sExpr, sSet, sPar, sPar3, sAsg, sSetIx, sFor, gNm, gTp, gsNil, gsCons, eVar, ePk, eMv, eBor, eC, eBin, eNeg, eAndF, eOrF, eNotF, eIf, eChain, eTup, eLst, eNary, eCall, eMeth, eMake, eFld, eSl, oSome, oNone, aNil, aCons, tOf, tAndF, tOrF, tNotF, cont, conts, tmpOf, valOf, valsOf, toVl, Vl.sl, putB, iSeq, seqOf, iRange1, iRange2, iZip2, iZip3, iEnum, opAdd, opSub, opMul, opMod, opFdiv, opPow, opEq, opNe, opLt, opLe, opGt, opGe, opCmp, opIs, opIsNot, opIx, opSl, isNon, clLen, clAbs, clInt, clMax, clMin, clMax2, clMin2, clSum, clSum2, clAll, clAny, clTuple, clList, clIsi, isTy, isAny, tyP, subTy, eAppend, eExtend, datN_i, datN_n, datN_b, datN_l, datN_t, datNs_Ints, datNs_nil, eqP_ii, eqP_ll, eqP_tt, eqP_nn, eqP_bb, eqPs_Ints, eqPs_nn, eqPs_nc, eqPs_cn, lineN, opIs2, opIsN2, opIsB, opIsNB, e, bls_true, alls_true]
    | lst xs =>
      have e := isL_l (hs xs h)
      rw [show n + 1 + 1 = (n + 1) + 1 from rfl]
      unfold F_isR
      simp [F_isS, fnF, prepP, finP, sNil, sSeq, sIf, sRet, sRetN, sExpr, sSet, sPar, sPar3, sAsg, sSetIx, sFor, gNm, gTp, gsNil, gsCons, eVar, ePk, eMv, eBor, eC, eBin, eNeg, eAndF, eOrF, eNotF, eIf, eChain, eTup, eLst, eNary, eCall, eMeth, eMake, eFld, eSl, oSome, oNone, aNil, aCons, tOf, tAndF, tOrF, tNotF, cont, conts, tmpOf, valOf, valsOf, toVl, Vl.sl, putB, iSeq, seqOf, iRange1, iRange2, iZip2, iZip3, iEnum, opAdd, opSub, opMul, opMod, opFdiv, opPow, opEq, opNe, opLt, opLe, opGt, opGe, opCmp, opIs, opIsNot, opIx, opSl, isNon, clLen, clAbs, clInt, clMax, clMin, clMax2, clMin2, clSum, clSum2, clAll, clAny, clTuple, clList, clIsi, isTy, isAny, tyP, subTy, eAppend, eExtend, datN_i, datN_n, datN_b, datN_l, datN_t, datNs_Ints, datNs_nil, eqP_ii, eqP_ll, eqP_tt, eqP_nn, eqP_bb, eqPs_Ints, eqPs_nn, eqPs_nc, eqPs_cn, lineN, opIs2, opIsN2, opIsB, opIsNB, e, bls_true, alls_true]
    | _ => simp [datN] at h
theorem isG_refl {p : PV} (h : datN 7 p = true) : F_isG [.fz p, .fz p] = some (.fz (.bl true), [.fz p, .fz p]) := isR_refl 7 p h
theorem isG_ol {xs : List PV} (hd : datNs 6 xs = true) : F_isG [.own xs, .fz (.lst xs)] = some (.fz (.bl true), [.fz (.lst xs), .fz (.lst xs)]) := by
  have e := isL_ol (n := 7) (xs := xs) fun x hx => isR_refl 6 x (by rw [datNs_all] at hd; exact List.all_eq_true.mp hd x hx)
  have e2 := bls_true (zipP xs xs)
  have e3 := alls_true (zipP xs xs)
  have g : ∀ f : FP, F_isL f [.own xs, .fz (.lst xs), .un, .un] = some (.own ((zipP xs xs).map fun _ => .bl true), [.fz (.lst xs), .fz (.lst xs), .un, .un]) → F_isS f [.own xs, .fz (.lst xs)] = some (.fz (.bl true), [.fz (.lst xs), .fz (.lst xs)]) := fun f ef => by
    simp [F_isS, fnF, prepP, finP, sNil, sSeq, sIf, sRet, sRetN, sExpr, sSet, sPar, sPar3, sAsg, sSetIx, sFor, gNm, gTp, gsNil, gsCons, eVar, ePk, eMv, eBor, eC, eBin, eNeg, eAndF, eOrF, eNotF, eIf, eChain, eTup, eLst, eNary, eCall, eMeth, eMake, eFld, eSl, oSome, oNone, aNil, aCons, tOf, tAndF, tOrF, tNotF, cont, conts, tmpOf, valOf, valsOf, toVl, Vl.sl, putB, iSeq, seqOf, iRange1, iRange2, iZip2, iZip3, iEnum, opAdd, opSub, opMul, opMod, opFdiv, opPow, opEq, opNe, opLt, opLe, opGt, opGe, opCmp, opIs, opIsNot, opIx, opSl, isNon, clLen, clAbs, clInt, clMax, clMin, clMax2, clMin2, clSum, clSum2, clAll, clAny, clTuple, clList, clIsi, isTy, isAny, tyP, subTy, eAppend, eExtend, datN_i, datN_n, datN_b, datN_l, datN_t, datNs_Ints, datNs_nil, eqP_ii, eqP_ll, eqP_tt, eqP_nn, eqP_bb, eqPs_Ints, eqPs_nn, eqPs_nc, eqPs_cn, lineN, opIs2, opIsN2, opIsB, opIsNB, ef, e2, e3]
  exact g _ e
theorem isG_lo {xs : List PV} (hd : datNs 6 xs = true) : F_isG [.fz (.lst xs), .own xs] = some (.fz (.bl true), [.fz (.lst xs), .fz (.lst xs)]) := by
  have e := isL_lo (n := 7) (xs := xs) fun x hx => isR_refl 6 x (by rw [datNs_all] at hd; exact List.all_eq_true.mp hd x hx)
  have e2 := bls_true (zipP xs xs)
  have e3 := alls_true (zipP xs xs)
  have g : ∀ f : FP, F_isL f [.fz (.lst xs), .own xs, .un, .un] = some (.own ((zipP xs xs).map fun _ => .bl true), [.fz (.lst xs), .fz (.lst xs), .un, .un]) → F_isS f [.fz (.lst xs), .own xs] = some (.fz (.bl true), [.fz (.lst xs), .fz (.lst xs)]) := fun f ef => by
    simp [F_isS, fnF, prepP, finP, sNil, sSeq, sIf, sRet, sRetN, sExpr, sSet, sPar, sPar3, sAsg, sSetIx, sFor, gNm, gTp, gsNil, gsCons, eVar, ePk, eMv, eBor, eC, eBin, eNeg, eAndF, eOrF, eNotF, eIf, eChain, eTup, eLst, eNary, eCall, eMeth, eMake, eFld, eSl, oSome, oNone, aNil, aCons, tOf, tAndF, tOrF, tNotF, cont, conts, tmpOf, valOf, valsOf, toVl, Vl.sl, putB, iSeq, seqOf, iRange1, iRange2, iZip2, iZip3, iEnum, opAdd, opSub, opMul, opMod, opFdiv, opPow, opEq, opNe, opLt, opLe, opGt, opGe, opCmp, opIs, opIsNot, opIx, opSl, isNon, clLen, clAbs, clInt, clMax, clMin, clMax2, clMin2, clSum, clSum2, clAll, clAny, clTuple, clList, clIsi, isTy, isAny, tyP, subTy, eAppend, eExtend, datN_i, datN_n, datN_b, datN_l, datN_t, datNs_Ints, datNs_nil, eqP_ii, eqP_ll, eqP_tt, eqP_nn, eqP_bb, eqPs_Ints, eqPs_nn, eqPs_nc, eqPs_cn, lineN, opIs2, opIsN2, opIsB, opIsNB, ef, e2, e3]
  exact g _ e
theorem isG_oo {xs : List PV} (hd : datNs 6 xs = true) : F_isG [.own xs, .own xs] = some (.fz (.bl true), [.fz (.lst xs), .fz (.lst xs)]) := by
  have e := isL_oo (n := 7) (xs := xs) fun x hx => isR_refl 6 x (by rw [datNs_all] at hd; exact List.all_eq_true.mp hd x hx)
  have e2 := bls_true (zipP xs xs)
  have e3 := alls_true (zipP xs xs)
  have g : ∀ f : FP, F_isL f [.own xs, .own xs, .un, .un] = some (.own ((zipP xs xs).map fun _ => .bl true), [.fz (.lst xs), .fz (.lst xs), .un, .un]) → F_isS f [.own xs, .own xs] = some (.fz (.bl true), [.fz (.lst xs), .fz (.lst xs)]) := fun f ef => by
    simp [F_isS, fnF, prepP, finP, sNil, sSeq, sIf, sRet, sRetN, sExpr, sSet, sPar, sPar3, sAsg, sSetIx, sFor, gNm, gTp, gsNil, gsCons, eVar, ePk, eMv, eBor, eC, eBin, eNeg, eAndF, eOrF, eNotF, eIf, eChain, eTup, eLst, eNary, eCall, eMeth, eMake, eFld, eSl, oSome, oNone, aNil, aCons, tOf, tAndF, tOrF, tNotF, cont, conts, tmpOf, valOf, valsOf, toVl, Vl.sl, putB, iSeq, seqOf, iRange1, iRange2, iZip2, iZip3, iEnum, opAdd, opSub, opMul, opMod, opFdiv, opPow, opEq, opNe, opLt, opLe, opGt, opGe, opCmp, opIs, opIsNot, opIx, opSl, isNon, clLen, clAbs, clInt, clMax, clMin, clMax2, clMin2, clSum, clSum2, clAll, clAny, clTuple, clList, clIsi, isTy, isAny, tyP, subTy, eAppend, eExtend, datN_i, datN_n, datN_b, datN_l, datN_t, datNs_Ints, datNs_nil, eqP_ii, eqP_ll, eqP_tt, eqP_nn, eqP_bb, eqPs_Ints, eqPs_nn, eqPs_nc, eqPs_cn, lineN, opIs2, opIsN2, opIsB, opIsNB, ef, e2, e3]
  exact g _ e
section
variable {α : Type} [DecidableEq α] {e : α → PV} {k : Nat} {F : FP}
/-- the same thing twice -/
theorem is_q (hF : F = F_isG) (h : Eqv k e) (hk : k ≤ 7) {a b : α} (hab : a = b) : extB F [.fz (e a), .fz (e b)] = some true := by
  subst hab hF
  unfold extB
  rw [isG_refl (h.dat 7 a hk)]; rfl
theorem is_ol (hF : F = F_isG) (h : Eqv k e) (hk : k ≤ 6) {a b : List α} (hab : a = b) : extB F [.own (a.map e), .fz (eL e b)] = some true := by
  subst hab hF
  unfold extB
  rw [isG_ol (datNs_map h hk a)]; rfl
theorem is_lo (hF : F = F_isG) (h : Eqv k e) (hk : k ≤ 6) {a b : List α} (hab : a = b) : extB F [.fz (eL e a), .own (b.map e)] = some true := by
  subst hab hF
  unfold extB
  rw [isG_lo (datNs_map h hk a)]; rfl
theorem is_oo (hF : F = F_isG) (h : Eqv k e) (hk : k ≤ 6) {a b : List α} (hab : a = b) : extB F [.own (a.map e), .own (b.map e)] = some true := by
  subst hab hF
  unfold extB
  rw [isG_oo (datNs_map h hk a)]; rfl
end
end PL
set_option Elab.async false
set_option linter.all false
set_option maxRecDepth 100000
set_option maxHeartbeats 1000000
/-! PL13: sorted, told by an order of the typed values. -/
namespace PL
open PySem PySem.W PyProof.Rows
/-- the order that sorted goes by -/
structure Ltq {α : Type} (e : α → PV) (lt : α → α → Prop) : Prop where
  h : ∀ a b s t, lexLt itemOrd (keyToks (toD (e a)) ++ s) (keyToks (toD (e b)) ++ t) = true ↔ lt a b ∨ (a = b ∧ lexLt itemOrd s t = true)
  al : ∀ a b, alike (toD (e a)) (toD (e b)) = true
theorem itemLt_i (a b : Int) : itemOrd.blt (Sum.inl a) (Sum.inl b) = decide (a < b) := rfl
theorem lex_i (a b : Int) (s t : List (Int ⊕ List Nat)) : lexLt itemOrd (Sum.inl a :: s) (Sum.inl b :: t) = true ↔ a < b ∨ (a = b ∧ lexLt itemOrd s t = true) := by
  rw [lex_cons (O := itemOrd), itemLt_i, itemLt_i]
  simp only [Bool.or_eq_true, Bool.and_eq_true, Bool.not_eq_true', decide_eq_true_eq, decide_eq_false_iff_not]
  constructor
  · rintro (h | ⟨h1, h2⟩)
    · exact .inl h
    · by_cases c : a < b
      · exact .inl c
      · exact .inr ⟨by omega, h2⟩
  · rintro (h | ⟨h1, h2⟩)
    · exact .inl h
    · exact .inr ⟨by omega, h2⟩
theorem ltq_int : Ltq PV.int (fun a b => a < b) := ⟨fun a b s t => lex_i a b s t, fun a b => by simp [toD, alike]⟩
theorem lex_same (a : Int) (s t : List (Int ⊕ List Nat)) : lexLt itemOrd (Sum.inl a :: s) (Sum.inl a :: t) = lexLt itemOrd s t := by
  rw [Bool.eq_iff_iff, lex_i]
  constructor
  · rintro (h | ⟨_, h⟩)
    · omega
    · exact h
  · exact fun h => .inr ⟨rfl, h⟩
section
variable {α β γ : Type} {e : α → PV} {f : β → PV} {g : γ → PV} {l1 : α → α → Prop} {l2 : β → β → Prop} {l3 : γ → γ → Prop}
theorem ltq_P2 (h1 : Ltq e l1) (h2 : Ltq f l2) : Ltq (eP2 e f) (fun a b => l1 a.1 b.1 ∨ (a.1 = b.1 ∧ l2 a.2 b.2)) := ⟨fun a b s t => by
  obtain ⟨a1, a2⟩ := a
  obtain ⟨b1, b2⟩ := b
  simp only [toD, toDs, keyToks, keyToksAll, List.cons_append, List.append_assoc]
  rw [lex_same, h1.h, lex_same, h2.h]
  simp only [List.nil_append, List.cons_append]
  rw [lex_same]
  simp only [Prod.mk.injEq]
  constructor
  · rintro (h | ⟨h, h' | ⟨h', h''⟩⟩)
    · exact .inl (.inl h)
    · exact .inl (.inr ⟨h, h'⟩)
    · exact .inr ⟨⟨h, h'⟩, h''⟩
  · rintro ((h | ⟨h, h'⟩) | ⟨⟨h, h'⟩, h''⟩)
    · exact .inl h
    · exact .inr ⟨h, .inl h'⟩
    · exact .inr ⟨h, .inr ⟨h', h''⟩⟩, fun a b => by simp [toD, toDs, alike, alikeAll, h1.al, h2.al]⟩
theorem ltq_P3 (h1 : Ltq e l1) (h2 : Ltq f l2) (h3 : Ltq g l3) : Ltq (eP3 e f g) (fun a b => l1 a.1 b.1 ∨ (a.1 = b.1 ∧ (l2 a.2.1 b.2.1 ∨ (a.2.1 = b.2.1 ∧ l3 a.2.2 b.2.2)))) := ⟨fun a b s t => by
  obtain ⟨a1, a2, a3⟩ := a
  obtain ⟨b1, b2, b3⟩ := b
  simp only [toD, toDs, keyToks, keyToksAll, List.cons_append, List.append_assoc]
  rw [lex_same, h1.h, lex_same, h2.h, lex_same, h3.h]
  simp only [List.nil_append, List.cons_append]
  rw [lex_same]
  simp only [Prod.mk.injEq]
  constructor
  · rintro (h | ⟨h, h' | ⟨h', h'' | ⟨h'', h3⟩⟩⟩)
    · exact .inl (.inl h)
    · exact .inl (.inr ⟨h, .inl h'⟩)
    · exact .inl (.inr ⟨h, .inr ⟨h', h''⟩⟩)
    · exact .inr ⟨⟨h, h', h''⟩, h3⟩
  · rintro ((h | ⟨h, h' | ⟨h', h''⟩⟩) | ⟨⟨h, h', h''⟩, h3⟩)
    · exact .inl h
    · exact .inr ⟨h, .inl h'⟩
    · exact .inr ⟨h, .inr ⟨h', .inl h''⟩⟩
    · exact .inr ⟨h, .inr ⟨h', .inr ⟨h'', h3⟩⟩⟩, fun a b => by simp [toD, toDs, alike, alikeAll, h1.al, h2.al, h3.al]⟩
/-- shorter or less at the first place that is not the same -/
def lexL (l : α → α → Prop) : List α → List α → Prop
  | [], [] => False
  | [], _ :: _ => True
  | _ :: _, [] => False
  | x :: xs, y :: ys => l x y ∨ (x = y ∧ lexL l xs ys)
theorem ltq_Tk (h1 : Ltq e l1) : ∀ (a b : List α) (s t : List (Int ⊕ List Nat)), lexLt itemOrd (keyToksAll (toDs (a.map e)) ++ s) (keyToksAll (toDs (b.map e)) ++ t) = true ↔ lexL l1 a b ∨ (a = b ∧ lexLt itemOrd s t = true)
  | [], [], s, t => by
    simp only [List.map_nil, toDs, keyToksAll, List.cons_append, List.nil_append, lexL]
    rw [lex_same]; simp
  | [], y :: ys, s, t => by
    simp only [List.map_nil, List.map_cons, toDs, keyToksAll, List.cons_append, List.nil_append, lexL]
    rw [lex_i]; simp
  | x :: xs, [], s, t => by
    simp only [List.map_nil, List.map_cons, toDs, keyToksAll, List.cons_append, List.nil_append, lexL]
    rw [lex_i]; simp
  | x :: xs, y :: ys, s, t => by
    simp only [List.map_cons, toDs, keyToksAll, List.cons_append, List.append_assoc, lexL]
    rw [lex_same, h1.h, ltq_Tk h1 xs ys s t]
    simp only [List.cons.injEq]
    constructor
    · rintro (h | ⟨h, h' | ⟨h', h''⟩⟩)
      · exact .inl (.inl h)
      · exact .inl (.inr ⟨h, h'⟩)
      · exact .inr ⟨⟨h, h'⟩, h''⟩
    · rintro ((h | ⟨h, h'⟩) | ⟨⟨h, h'⟩, h''⟩)
      · exact .inl h
      · exact .inr ⟨h, .inl h'⟩
      · exact .inr ⟨h, .inr ⟨h', h''⟩⟩
theorem alikeAll_map (h1 : Ltq e l1) : ∀ a b : List α, alikeAll (toDs (a.map e)) (toDs (b.map e)) = true
  | [], _ => by simp [toDs, alikeAll]
  | x :: xs, [] => by simp [toDs, alikeAll]
  | x :: xs, y :: ys => by
    simp only [List.map_cons, toDs, alikeAll, h1.al, alikeAll_map h1 xs ys, Bool.and_self]
theorem ltq_T (h1 : Ltq e l1) : Ltq (eT e) (lexL l1) := ⟨fun a b s t => by
  simp only [toD, keyToks]
  exact ltq_Tk h1 a b s t, fun a b => by
  simp only [toD, alike]
  exact alikeAll_map h1 a b⟩
theorem ltq_L (h1 : Ltq e l1) : Ltq (eL e) (lexL l1) := ⟨fun a b s t => by
  simp only [toD, keyToks]
  exact ltq_Tk h1 a b s t, fun a b => by
  simp only [toD, alike]
  exact alikeAll_map h1 a b⟩
theorem leP_q (h : Ltq e l1) {a b : α} : leP (e a) (e b) = true ↔ ¬ l1 b a := by
  have := h.h b a [] []
  simp only [List.append_nil] at this
  have e1 : leP (e a) (e b) = !lexLt itemOrd (keyToks (toD (e b))) (keyToks (toD (e a))) := rfl
  rw [e1, Bool.not_eq_true', ← Bool.not_eq_true, this]
  simp [PyProof.Rows.lexLt]
theorem Ltq.iff (h : Ltq e l1) {a b : α} : l1 a b ↔ lexLt itemOrd (keyToks (toD (e a))) (keyToks (toD (e b))) = true := by
  have := h.h a b [] []
  simp only [List.append_nil] at this
  rw [this]
  simp [PyProof.Rows.lexLt]
theorem Ltq.irr (h : Ltq e l1) (a : α) : ¬ l1 a a := by
  rw [h.iff]
  have := (listOrd itemOrd).irrefl (keyToks (toD (e a)))
  rw [Bool.not_eq_true]; exact this
theorem Ltq.trans (h : Ltq e l1) {a b c : α} (h1 : l1 a b) (h2 : l1 b c) : l1 a c := by
  rw [h.iff] at h1 h2 ⊢
  exact (listOrd itemOrd).trans _ _ _ h1 h2
theorem Ltq.asymm (h : Ltq e l1) {a b : α} (h1 : l1 a b) : ¬ l1 b a := fun h2 => h.irr a (h.trans h1 h2)
theorem sortO_some [DecidableEq α] {k : Nat} (h : Ltq e l1) (hq : Eqv k e) (hk : k ≤ 60) {xs : List α} (ht : (∀ a ∈ xs, isTupN (e a) = true) ∨ (∀ a ∈ xs, isOth (e a) = true)) : sortO e xs = some (xs.mergeSort fun a b => leP (e a) (e b)) := by
  unfold sortO
  rw [if_pos]
  unfold sortB
  simp only [Bool.and_eq_true, Bool.or_eq_true, List.all_eq_true, List.mem_map, forall_exists_index, and_imp, forall_apply_eq_imp_iff₂]
  exact ⟨⟨datNs_map hq hk xs, fun a _ b _ => h.al a b⟩, ht⟩
theorem sort_id (h : Ltq e l1) {xs : List α} (hp : xs.Pairwise fun a b => ¬ l1 b a) : xs.mergeSort (fun a b => leP (e a) (e b)) = xs :=
  List.mergeSort_of_pairwise (hp.imp fun h' => (leP_q h).mpr h')
end
end PL
set_option Elab.async false
set_option linter.all false
set_option maxRecDepth 100000
set_option maxHeartbeats 4000000
/-! PL14: a tuple times one. -/
namespace PL
open PySem PySem.Spec PyProof.Rows L2
theorem tuple_mul1 (l : Addr) (items : Array Value) (n : Nat) (dd : Option Addr) (sl : Array (Option Value)) (x : Int) (u : Tok) (c0 : (decide (x < -(2 ^ 63)) || decide (x ≥ 2 ^ 63)) = false) (c1 : (items.isEmpty || x == 1) = true) :
    Meets (Builtin.«tuple.__mul__» ⟨[.ref l, .int x u], []⟩) (fun _ R s => s.heap.get? l = some { cls := .type "tuple", dict := dd, data := .seq items n, slots := sl } ∧
      R (.ok (.ret (Value.ref l))) s) :=
  .of_wp fun prog w A R s h => by
    obtain ⟨hp, g, d, tk, os⟩ := s
    obtain ⟨hl, h⟩ := h
    have f1 := AutoSeq1.idx_int
    wp_walk using wpAny_loadPart' hl
    repeat (first
      | (refine wpAny_ite_false (decide_eq_false (by rw [c0]; exact Bool.false_ne_true)) ?_; wp_walk using wpAny_loadPart' hl)
      | (refine wpAny_ite_true (decide_eq_true (by rw [c1])) ?_; wp_walk using wpAny_loadPart' hl))
    all_goals first | exact ⟨_, rfl, h⟩ | skip
def rRepT1 (K : PySem.W.Frag) : R2 := fun x y H Q => ∃ l xs, x = .ref l ∧ y = .int 1 ∧ SqT K H l xs ∧ Q (.ref l) H
theorem op_repT1 {X : Cx} : OpR X (binaryOp .Mult) (rRepT1 X.K) := by
  intro pins s σ H x y v u Q I rx ry h
  obtain ⟨l, xs, rfl, rfl, hT, q⟩ := h
  cases rx
  obtain ⟨t, rfl⟩ := ry
  obtain ⟨its, r, ⟨⟨cls, dd, data, sl⟩, ho, hc, n, hd⟩, hs⟩ := I.tuple hT
  simp only at hc hd
  subst hc hd
  have c0 : (decide ((1 : Int) < -(2 ^ 63)) || decide ((1 : Int) ≥ 2 ^ 63)) = false := by decide
  have c1 : (its.toArray.isEmpty || (1 : Int) == 1) = true := by simp
  refine wpAny_binaryOp_repeat_ref (T := "tuple") (U := "int") (by decide) ⟨_, ho, rfl⟩ (fun s' => typeIs_int s' 1 t) noFill_tuple_mul F.fills_int_mul F.slot_int_rmul repeat_tuple F.slot_int_index.lookup
    (call_meets F.slot_int_rmul (typeIs_int s 1 t) F.entry_int_rmul (F.args_int_rmul_2 _ _) (int_rmul_tuple 1 t l its.toArray n dd sl)
      ⟨ho, rfl, ⟨_, ho, rfl⟩, call_meets F.slot_tuple_mul ⟨_, ho, rfl⟩ F.entry_tuple_mul (F.args_tuple_mul_2 _ _) (tuple_mul1 l its.toArray n dd sl 1 t c0 c1) ⟨ho, ?_⟩⟩)
  exact ⟨.ref l, H, I, rfl, q⟩
def opMulT1 : PV → PV → Option Vl
  | .tup xs, .int k => if k = 1 then some (.fz (.tup xs)) else none
  | _, _ => none
theorem bin_mulT1 {R : RE} : BinOk R opMulT1 (rRepT1 R.K) := by
  intro e F H B p q x y r Q hB hp hq ho k
  unfold opMulT1 at ho
  split at ho
  · rename_i xs j
    split at ho
    · rename_i c
      subst c
      cases ho
      have hp' := hp
      obtain ⟨a, vs, rfl, h2, r1⟩ := hp.tup hB.sub
      rcases hp' with h | ⟨_, _, _, _, z, _⟩
      · exact ⟨a, vs, rfl, hq.int, h2, k _ H F (hB.push_fz h)⟩
      · cases z
    · cases ho
  · cases ho
def opMul2 : PV → PV → Option Vl := fun p q => match opMul p q with
  | some r => some r
  | none => opMulT1 p q
theorem opr_mul2 {X : Cx} : OpR X (binaryOp .Mult) (fun x y H Q => (rI CMul (fun i j => .int (i * j)) x y H Q ∨ (rI CMulW (fun i j => .int (i * j)) x y H Q ∨ (rRep x y H Q ∨ rRepT X.K x y H Q))) ∨ rRepT1 X.K x y H Q) := opr_mul.or op_repT1
theorem bin_mul2 {R : RE} : BinOk R opMul2 (fun x y H Q => (rI CMul (fun i j => .int (i * j)) x y H Q ∨ (rI CMulW (fun i j => .int (i * j)) x y H Q ∨ (rRep x y H Q ∨ rRepT R.K x y H Q))) ∨ rRepT1 R.K x y H Q) := bin_mul.or bin_mulT1
theorem ev_mul2 {X : Cx} {R : RE} (hK : R.K = X.K) {a b : PySem.Expr} {fa fb : PF} {pos : Pos} (ha : Ev X R a fa) (hb : Ev X R b fb) : Ev X R (.BinOp a .Mult b pos) (eBin opMul2 fa fb) :=
  ev_bin (by rw [hK]; exact opr_mul2) bin_mul2 ha hb
theorem opMul2_of {p q : PV} {v : Vl} (h : opMul p q = some v) : opMul2 p q = some v := by unfold opMul2; rw [h]
section
variable {α : Type} {e : α → PV} {xs zs : List α}
def repT2 (xs : List α) (k : Int) : Option (List α) := if k = 1 then some xs else repT xs k
theorem opMul2_T {k : Int} (h : repT2 xs k = some zs) : opMul2 (eT e xs) (.int k) = some (.fz (eT e zs)) := by
  unfold repT2 at h
  split at h
  · rename_i c
    subst c
    cases h
    show opMul2 (.tup (xs.map e)) (.int 1) = _
    unfold opMul2
    have : opMul (.tup (xs.map e)) (.int 1) = none := by
      simp [opMul]
    rw [this]
    rfl
  · exact opMul2_of (opMul_T h)
end
end PL
set_option Elab.async false
set_option linter.all false
set_option maxRecDepth 100000
set_option maxHeartbeats 4000000
/-! PL15: repr of bools. -/
namespace PL
open PySem PySem.Spec PyProof.Rows L2
def strB (b : Bool) : Str := if b then "True" else "False"
def rReprB : List V → Hp → VK → Prop := fun vs H Q => ∃ b : Bool, vs = [.bl b] ∧ Q (.str (strB b)) H
theorem cr_reprB {X : Cx} : CallR X (.builtin "repr") rReprB := by
  intro pins s σ H xs us Q I r h
  obtain ⟨b, rfl, q⟩ := h
  cases r with
  | cons r1 r2 =>
    cases r2
    cases (show _ = Value.bool b from r1)
    exact PySem.P.repr_of_bool ⟨.str _, H, I.tok _, ⟨_, rfl⟩, q⟩
def clRepr : List PV → Option Vl
  | [.bl b] => some (.fz (.str (strB b)))
  | _ => none
theorem cok_repr {R : RE} : CallOk R clRepr rReprB := by
  intro e F H B ps xs r Q hB hp ho k
  unfold clRepr at ho
  split at ho
  · cases ho
    obtain ⟨x, rfl, q⟩ := hp.one
    rw [q.bl]
    exact ⟨_, rfl, k _ H F (hB.push_fz (.str _))⟩
  · cases ho
theorem eqP_strB (a b : Bool) : eqP (.str (strB a)) (.str (strB b)) = decide (a = b) := by
  cases a <;> cases b <;> decide +kernel
theorem eqv_strB : Eqv 0 (fun b => PV.str (strB b)) := ⟨fun n b _ => by
  have : PyData.strOk (strB b) = true := by cases b <;> decide +kernel
  cases n <;> exact this, eqP_strB⟩
/-! tuples of ranges -/
section
variable {X : Cx} {R : RE} {a b : PySem.Expr} {fa fb : PF} {p pos p2 pos2 : Pos}
theorem tupRg_some {w : PIF} {ρ ρ' : List Sl} {r : Sl} (q : eTupRg w ρ = some (r, ρ')) : ∃ items, w ρ = some (items, [], ρ') ∧ r = .fz (.tup items) := by
  unfold eTupRg at q
  rw [Option.bind_eq_some_iff] at q
  obtain ⟨⟨items, rs, ρ1⟩, h1, q⟩ := q
  split at q
  · rename_i e
    dsimp only at e
    subst e
    cases q
    exact ⟨items, h1, rfl⟩
  · cases q
theorem ev_tupRg1 (hc : X.calm = true) (hl : Gl X "tuple") (hml : X.mg "tuple" = none) (hg : Gl X "range") (hm : X.mg "range" = none) (ha : Ev X R a fa) (h1 : starEach [a] X.env = (false, eval a X.env) :: starEach [] X.env := by rfl)
    (h2 : starEach [.Call (.Name "range" p2) [a] [] pos2] X.env = (false, eval (.Call (.Name "range" p2) [a] [] pos2) X.env) :: starEach [] X.env := by rfl) :
    Ev X R (.Call (.Name "tuple" p) [.Call (.Name "range" p2) [a] [] pos2] [] pos) (eTupRg (iRange1 fa)) := by
  refine ⟨fun ρ r ρ' q => ?_, pe_mono (pe_tupRg hc hl hml (prg_1 hg hm ha.pe h1) h2) fun σ H Q q => ?_⟩
  · obtain ⟨items, q, _⟩ := tupRg_some q
    obtain ⟨j, q, _⟩ := rg1_some q
    exact ha.len _ _ _ q
  · obtain ⟨e, F, ρ, tm, r, ρ', hl, hB, hf, k⟩ := q
    obtain ⟨items, hf2, rfl⟩ := tupRg_some hf
    obtain ⟨j, q1, hj, rfl, _⟩ := rg1_some hf2
    refine ⟨e, F, ρ, tm, _, ρ', hl, hB, q1, fun x H1 F1 B1 _ => ?_⟩
    have ex := (B1.rq_fz (x := x) (p := .int j) app_last).int
    have hL : (lineN : Int) = 16777216 := rfl
    refine ⟨j, ex, ⟨by decide, by decide, by omega, by omega, by omega⟩, fun q nq => ?_⟩
    have e1 : rgV 0 j = (List.range j.toNat).map fun i => V.int (0 + (i : Nat)) := by unfold rgV; rw [Int.sub_zero]
    rw [e1]
    exact k _ _ _ (B1.pop.new_tup nq (rpl_range 0 j.toNat)) pk_fz
theorem ev_tupRg2 (hc : X.calm = true) (hl : Gl X "tuple") (hml : X.mg "tuple" = none) (hg : Gl X "range") (hm : X.mg "range" = none) (ha : Ev X R a fa) (hb : Ev X R b fb) (h1 : starEach [a, b] X.env = (false, eval a X.env) :: starEach [b] X.env := by rfl) (h1b : starEach [b] X.env = (false, eval b X.env) :: starEach [] X.env := by rfl)
    (h1c : ((backTo pos2 (starEach [b] X.env)).any fun x => x.fst) = false := by rfl)
    (h2 : starEach [.Call (.Name "range" p2) [a, b] [] pos2] X.env = (false, eval (.Call (.Name "range" p2) [a, b] [] pos2) X.env) :: starEach [] X.env := by rfl) :
    Ev X R (.Call (.Name "tuple" p) [.Call (.Name "range" p2) [a, b] [] pos2] [] pos) (eTupRg (iRange2 fa fb)) := by
  refine ⟨fun ρ r ρ' q => ?_, pe_mono (pe_tupRg hc hl hml (prg_2 hg hm ha.pe hb.pe h1 h1b h1c) h2) fun σ H Q q => ?_⟩
  · obtain ⟨items, q, _⟩ := tupRg_some q
    obtain ⟨i, j, ρ1, q1, q2, _⟩ := rg2_some q
    exact (hb.len _ _ _ q2).trans (ha.len _ _ _ q1)
  · obtain ⟨e, F, ρ, tm, r, ρ', hl, hB, hf, k⟩ := q
    obtain ⟨items, hf2, rfl⟩ := tupRg_some hf
    obtain ⟨i, j, ρ1, q1, q2, hj, rfl, _⟩ := rg2_some hf2
    have l1 := ha.len _ _ _ q1
    refine ⟨e, F, ρ, tm, _, ρ1, hl, hB, q1, fun x H1 F1 B1 _ => ?_⟩
    have ex := (B1.rq_fz (x := x) (p := .int i) app_last).int
    refine ⟨e, F1, ρ1, tm, _, ρ', by omega, B1.pop, q2, fun y H2 F2 B2 _ => ?_⟩
    have ey := (B2.rq_fz (x := y) (p := .int j) app_last).int
    have hL : (lineN : Int) = 16777216 := rfl
    refine ⟨i, j, ex, ey, ⟨hj.1, hj.2.2.1, hj.2.2.2.1, hj.2.1, by omega⟩, fun q nq => ?_⟩
    exact k _ _ _ (B2.pop.new_tup nq (rpl_range i (j - i).toNat)) pk_fz
end
theorem ej_trg {A B : List AS} {w : PIF} {items : List PV} (d : IJ A w items B) (hn : ∀ ρ x, w ρ = some x → x.2.1 = []) : EJ A (eTupRg w) (.fz (.tup items)) B := fun ρ hρ => by
  obtain ⟨rs, ρ1, e1, _, g1⟩ := d ρ hρ
  have := hn ρ _ e1
  dsimp only at this
  subst this
  refine ⟨_, ρ1, ?_, rfl, g1⟩
  unfold eTupRg
  rw [e1]; rfl
/-! the typed layer -/
theorem clRepr_q {b : Bool} : clRepr [.bl b] = some (.fz (.str (strB b))) := rfl
theorem strB_inj {a b : Bool} : (strB a = strB b) ↔ a = b := by cases a <;> cases b <;> decide +kernel
end PL
set_option Elab.async false
set_option linter.all false
set_option maxRecDepth 100000
set_option maxHeartbeats 4000000
/-! PL16: the empty dict. -/
namespace PL
open PySem PySem.Spec PyProof.Rows L2
section
variable {X : Cx} {R : RE} {pos : Pos}
theorem ev_dict0 : Ev X R (.Dict [] [] pos) (eC (.dct [] [])) := by
  refine ⟨fun ρ r ρ' h => by cases h; rfl, pe_mono pe_dnewK fun σ H Q q => ?_⟩
  obtain ⟨e, F, ρ, tm, r, ρ', hl, hB, hf, k⟩ := q
  cases hf
  intro p n
  exact k _ _ _ ((hB.lay_ice n).push_fz (.dct upd_same rfl .nil)) pk_fz
end
end PL
set_option Elab.async false
set_option linter.all false
set_option maxRecDepth 100000
set_option maxHeartbeats 1000000
/-! PL17: more plain facts. -/
namespace PL
open PySem
section
variable {ns : List Int} {c : Int}
theorem maxL_le_iff (h : ns ≠ []) : maxL ns ≤ c ↔ ∀ y ∈ ns, y ≤ c := ⟨fun k y hy => Int.le_trans (maxL_ge hy) k, fun k => k _ (maxL_mem h)⟩
theorem maxL_lt_iff (h : ns ≠ []) : maxL ns < c ↔ ∀ y ∈ ns, y < c := ⟨fun k y hy => Int.lt_of_le_of_lt (maxL_ge hy) k, fun k => k _ (maxL_mem h)⟩
theorem le_maxL_iff (h : ns ≠ []) : c ≤ maxL ns ↔ ∃ y ∈ ns, c ≤ y := ⟨fun k => ⟨_, maxL_mem h, k⟩, fun ⟨y, hy, k⟩ => Int.le_trans k (maxL_ge hy)⟩
theorem lt_maxL_iff (h : ns ≠ []) : c < maxL ns ↔ ∃ y ∈ ns, c < y := ⟨fun k => ⟨_, maxL_mem h, k⟩, fun ⟨y, hy, k⟩ => Int.lt_of_lt_of_le k (maxL_ge hy)⟩
theorem le_minL_iff (h : ns ≠ []) : c ≤ minL ns ↔ ∀ y ∈ ns, c ≤ y := ⟨fun k y hy => Int.le_trans k (minL_le hy), fun k => k _ (minL_mem h)⟩
theorem lt_minL_iff (h : ns ≠ []) : c < minL ns ↔ ∀ y ∈ ns, c < y := ⟨fun k y hy => Int.lt_of_lt_of_le k (minL_le hy), fun k => k _ (minL_mem h)⟩
theorem minL_le_iff (h : ns ≠ []) : minL ns ≤ c ↔ ∃ y ∈ ns, y ≤ c := ⟨fun k => ⟨_, minL_mem h, k⟩, fun ⟨y, hy, k⟩ => Int.le_trans (minL_le hy) k⟩
theorem minL_lt_iff (h : ns ≠ []) : minL ns < c ↔ ∃ y ∈ ns, y < c := ⟨fun k => ⟨_, minL_mem h, k⟩, fun ⟨y, hy, k⟩ => Int.lt_of_le_of_lt (minL_le hy) k⟩
def it (r : List Int) (j : Nat) : Int := r.getD j 0
theorem atI_it {r : List Int} {j : Nat} (h : j < r.length) : L2.atI r (j : Int) = some (it r j) := by
  rw [atI_nat, it, List.getD_eq_getElem?_getD, List.getElem?_eq_getElem h]; rfl
theorem it_mem {r : List Int} {j : Nat} (h : j < r.length) : it r j ∈ r := by
  rw [it, List.getD_eq_getElem?_getD, List.getElem?_eq_getElem h]
  exact List.getElem_mem _
theorem it_map {f : Nat → Int} {n j : Nat} (h : j < n) : it ((List.range n).map f) j = f j := by
  rw [it, List.getD_eq_getElem?_getD, List.getElem?_map, List.getElem?_range h]; rfl
theorem it_ext {r r' : List Int} (h : r.length = r'.length) (e : ∀ j < r.length, it r j = it r' j) : r = r' := by
  apply List.ext_getElem h
  intro i h1 h2
  have := e i h1
  unfold it at this
  rw [List.getD_eq_getElem?_getD, List.getD_eq_getElem?_getD, List.getElem?_eq_getElem h1, List.getElem?_eq_getElem h2] at this
  exact this
/-- a zip of two rows of one length, by places -/
theorem mem_zip_it {r r' : List Int} (h : r.length = r'.length) {p : Int × Int} : p ∈ r.zip r' ↔ ∃ j < r.length, p = (it r j, it r' j) := by
  constructor
  · intro hp
    obtain ⟨i, hi, e⟩ := List.mem_iff_getElem.mp hp
    rw [List.length_zip] at hi
    refine ⟨i, by omega, ?_⟩
    rw [← e, List.getElem_zip]
    unfold it
    rw [List.getD_eq_getElem?_getD, List.getD_eq_getElem?_getD, List.getElem?_eq_getElem (show i < r.length by omega), List.getElem?_eq_getElem (show i < r'.length by omega)]; rfl
  · rintro ⟨j, hj, rfl⟩
    have : (r.zip r')[j]'(by rw [List.length_zip]; omega) = (it r j, it r' j) := by
      rw [List.getElem_zip]
      unfold it
      rw [List.getD_eq_getElem?_getD, List.getD_eq_getElem?_getD, List.getElem?_eq_getElem (show j < r.length by omega), List.getElem?_eq_getElem (show j < r'.length by omega)]; rfl
    rw [← this]
    exact List.getElem_mem _
theorem enumQ_findI {xs : List Int} {k : Nat} (c : Int × Int → Bool) : ((enumQ k xs).find? c).map (·.1) = ((List.range xs.length).find? fun (j : Nat) => c (((k + j : Nat) : Int), it xs j)).map fun (j : Nat) => ((k + j : Nat) : Int) := by
  induction xs generalizing k with
  | nil => rfl
  | cons x xs ih =>
    rw [List.length_cons, List.range_succ_eq_map]
    unfold enumQ
    have e0 : it (x :: xs) 0 = x := rfl
    by_cases hc : c ((k : Int), x) = true
    · rw [List.find?_cons_of_pos hc, List.find?_cons_of_pos (by rw [e0]; simpa using hc)]; simp
    · rw [List.find?_cons_of_neg hc, List.find?_cons_of_neg (by rw [e0]; simpa using hc), ih, List.find?_map, Option.map_map]
      have e1 : (fun j : Nat => ((k + j : Nat) : Int)) ∘ Nat.succ = fun j : Nat => ((k + 1 + j : Nat) : Int) := by funext j; simp only [Function.comp_apply]; omega
      rw [e1]
      congr 2
      funext j
      have e2 : it (x :: xs) (Nat.succ j) = it xs j := rfl
      simp only [Function.comp_apply, e2]
      rw [show k + Nat.succ j = k + 1 + j by omega]
theorem enumQ_find0 {xs : List Int} (c : Int × Int → Bool) : ((enumQ 0 xs).find? c).map (·.1) = ((List.range xs.length).find? fun (j : Nat) => c ((j : Int), it xs j)).map fun (j : Nat) => (j : Int) := by
  have := enumQ_findI (xs := xs) (k := 0) c
  simp only [Nat.zero_add] at this
  exact this
theorem find_congr {α : Type} {p q : α → Bool} : ∀ {l : List α}, (∀ x ∈ l, p x = q x) → l.find? p = l.find? q
  | [], _ => rfl
  | x :: xs, h => by
    rw [List.find?_cons, List.find?_cons, h x List.mem_cons_self, find_congr fun y hy => h y (List.mem_cons_of_mem _ hy)]
theorem find_all {α : Type} {A : List α} {p : α → Bool} : (A.find? fun r => !p r).isNone = A.all p := by
  induction A with
  | nil => rfl
  | cons a A ih =>
    rw [List.find?_cons, List.all_cons, ← ih]
    cases p a <;> simp
/-- a loop that answers false at the first thing that is not so -/
theorem forR_every {α O : Type} {xs : List α} {b : α → Unit → Option (Ou Bool Unit)} {kR : Bool → O} {kk : Unit → Option O} (p : α → Bool) (st : ∀ x ∈ xs, ∀ u, b x u = if p x = true then some (.nx ()) else some (.rt false)) : forR xs () b kR kk = if xs.all p = true then kk () else some (kR false) := by
  rw [forR_find (c := fun x => !p x) (f := fun _ => false) fun x hx u => by rw [st x hx u]; cases p x <;> rfl, ← find_all]
  cases xs.find? fun x => !p x <;> rfl
end
/-! draws -/
def Dr (D : List PV → Int → Option (Int × List PV)) : Prop := ∀ (h : List PV) (lim : Int), HdL h → 0 < lim ∧ lim < 2 ^ 64 → ∃ r h', D h lim = some (r, h') ∧ 0 ≤ r ∧ r < lim ∧ HdL h'
theorem draws_ok {D : List PV → Int → Option (Int × List PV)} (hD : Dr D) {β : Type} {xs : List β} (f : Int → Int) {lim : Int} (hl : 0 < lim ∧ lim < 2 ^ 64) {h : List PV} (hh : HdL h) : ∃ ys h', (lcT xs h fun x s => (D s lim).bind fun d => some (f d.1, d.2)) = some (ys, h') ∧ ys.length = xs.length ∧ (∀ y ∈ ys, ∃ r, 0 ≤ r ∧ r < lim ∧ y = f r) ∧ HdL h' := by
  obtain ⟨ys, h', e, k1, k2, k3, k4⟩ := lcT_ex (xs := xs) (g := h) (b := fun x s => (D s lim).bind fun d => some (f d.1, d.2)) HdL (fun _ y => ∃ r, 0 ≤ r ∧ r < lim ∧ y = f r) hh fun x _ g hg => by
    obtain ⟨r, h', e, r0, r1, h6⟩ := hD g lim hg hl
    exact ⟨f r, h', by rw [e]; rfl, ⟨r, r0, r1, rfl⟩, h6⟩
  exact ⟨ys, h', e, k1, fun y hy => (k2 y hy).elim fun _ q => q.2, k4⟩
theorem rows_ok {D : List PV → Int → Option (Int × List PV)} (hD : Dr D) {β γ : Type} {xs : List β} {zs : List γ} (f : Int → Int) {lim : Int} (hl : 0 < lim ∧ lim < 2 ^ 64) {h : List PV} (hh : HdL h) : ∃ ys h', (lcT xs h fun x s => (lcT zs s fun x s => (D s lim).bind fun d => some (f d.1, d.2)).bind fun ys => some (ys.1, ys.2)) = some (ys, h') ∧ ys.length = xs.length ∧ (∀ r ∈ ys, r.length = zs.length ∧ ∀ y ∈ r, ∃ r, 0 ≤ r ∧ r < lim ∧ y = f r) ∧ HdL h' := by
  obtain ⟨ys, h', e, k1, k2, k3, k4⟩ := lcT_ex (xs := xs) (g := h) (b := fun x s => (lcT zs s fun x s => (D s lim).bind fun d => some (f d.1, d.2)).bind fun ys => some (ys.1, ys.2)) HdL (fun _ r => r.length = zs.length ∧ ∀ y ∈ r, ∃ r, 0 ≤ r ∧ r < lim ∧ y = f r) hh fun x _ g hg => by
    obtain ⟨ys, h', e, k1, k2, k3⟩ := draws_ok hD (xs := zs) f hl hg
    exact ⟨ys, h', by rw [e]; rfl, ⟨k1, k2⟩, k3⟩
  exact ⟨ys, h', e, k1, fun y hy => (k2 y hy).elim fun _ q => q.2, k4⟩
/-- one of some things -/
theorem any_ok {D : List PV → Int → Option (Int × List PV)} (hD : Dr D) {α : Type} {xs : List α} (h0 : xs ≠ []) (h1 : xs.length < 100000) {h : List PV} (hh : HdL h) : ∃ x h', ((D h (xs.length : Int)).bind fun d => (L2.atI xs d.1).bind fun x => some (x, d.2)) = some (x, h') ∧ x ∈ xs ∧ HdL h' := by
  have := List.length_pos_iff.mpr h0
  obtain ⟨r, h', e, r0, r1, h6⟩ := hD h (xs.length : Int) hh (by omega)
  obtain ⟨k, rfl⟩ : ∃ k : Nat, r = (k : Int) := ⟨r.toNat, by omega⟩
  refine ⟨xs[k]'(by omega), h', ?_, List.getElem_mem _, h6⟩
  rw [e, Option.bind_some, atI_nat, List.getElem?_eq_getElem (by omega)]; rfl
end PL
set_option Elab.async false
set_option linter.all false
set_option maxRecDepth 100000
set_option maxHeartbeats 3200000
/-! PL18: set(xs) of a list of ints, of a tuple of tuples. -/
namespace PL
open PySem PySem.Spec PyProof.Rows L2
section
variable {P : Program} {w : World} {A : Around} {E : Value → Shared → Prop} {s : Shared}
theorem call_set_lstI {l : Addr} {items : Array Value} (ns : List Int) {Q : Value → Shared → Prop} (hh : A.handled = none) (hl : s.heap.IsList l items) (hit : IntsAre items.toList ns) (hb : ns.length + 1 < scanBound)
    (h : ∀ (h' : Heap) (tk c : Nat), SetR w h' s.heap.objs.size (fun j => decide (j ∈ ns)) c → c ≤ ns.length → (∀ b o, s.heap.get? b = some o → h'.get? b = some o) → Q (.ref s.heap.objs.size) { s with heap := h', toks := tk }) : wpAny (model P w) A (call (.type "set") [.ref l]) Q E s := by
  have hisz : items.size = ns.length := by
    have q := IntsAre.length hit
    rw [Array.length_toList] at q
    exact q
  obtain ⟨c, tl, hmro⟩ := F.called_set.mro
  have hmade := F.called_set.made
  have hsub := F.called_set.sub
  refine wpAny_call (codeAny_of_tree ?_)
  show wpAny _ _ (callAny (.type "set") _) _ _ _
  refine wpAny_pure ⟨Code.quiet_builtin _ (by decide +kernel), codeAny_builtin F.entry_type_call ?_⟩
  rw [Around.under_plain (weight_type_call_type "set" [.ref l] []) rfl]
  have h1 := F.called_set.notType
  have h2 := F.called_set.canCreate
  have hct := F.typeCall_set_1 (.ref l)
  repeat (any_goals (first | assumption | wp_step))
  refine codeAny_mono (code_set_led1 (.ref l) (E := E) (Q₁ := fun obj s₁ => obj = .ref s.heap.objs.size ∧ s₁ = { s with heap := (s.heap.push { cls := .type "set", dict := none, data := .set #[] 0 (.fresh 0 0 (!w.params.followText "set-order")) }) }) ⟨rfl, rfl⟩) fun r s₁ hr => ?_
  cases r with
  | error e => exact hr
  | ok fl =>
    cases fl with
    | ret obj =>
      obtain ⟨rfl, rfl⟩ := hr
      have hS : (s.heap.push { cls := .type "set", dict := none, data := .set #[] 0 (.fresh 0 0 (!w.params.followText "set-order")) }).get? s.heap.objs.size = some { cls := .type "set", dict := none, data := .set #[] 0 (.fresh 0 0 (!w.params.followText "set-order")) } := Heap.get?_push_size _ rfl
      have hT : Shared.TypeIs { s with heap := (s.heap.push { cls := .type "set", dict := none, data := .set #[] 0 (.fresh 0 0 (!w.params.followText "set-order")) }) } (.ref s.heap.objs.size) "set" := ⟨_, hS, rfl⟩
      have hli := F.called_set.init.lookup
      have hbi := F.called_set.init.bind (.ref s.heap.objs.size)
      repeat (any_goals (first | assumption | wp_step))
      refine codeAny_mono (codeAny_call_builtin (R := wants (fun r s₂ => r = .none ∧ ∃ h' tk c, s₂ = { s with heap := h', toks := tk } ∧ SetR w h' s.heap.objs.size (fun j => decide (j ∈ ns)) c ∧ c ≤ ns.length ∧ (∀ b o, s.heap.get? b = some o → h'.get? b = some o)) E) F.called_set.init.plain F.entry_set_init (check_set_init_1 hT ?_)) fun r₂ s₂ hr₂ => ?_
      · obtain ⟨ol, hol, hcl, nl, hdl⟩ := hl
        obtain ⟨ocls, odict, odata, oslots⟩ := ol
        simp only at hcl hdl
        subst hcl; subst hdl
        have hol' : (s.heap.push { cls := .type "set", dict := none, data := .set #[] 0 (.fresh 0 0 (!w.params.followText "set-order")) }).get? l = some { cls := .type "list", dict := odict, data := .seq items nl, slots := oslots } := Heap.get?_push_of_some _ hol
        have hsls := F.sub_list_set
        have hslf := F.sub_list_frozenset
        have hne : (Value.type "list" == Value.type "dict") = false := by decide
        have hl1 : (s.heap.push { cls := .type "set", dict := none, data := .set #[] 0 (.fresh 0 0 (!w.params.followText "set-order")) }).IsList l items := ⟨_, hol', rfl, nl, rfl⟩
        unfold Builtin.«set.__init__» noKeywords Builtin.Frozenset.updateFrom
        generalize hPI : pyIter = PI
        wp_walk
        subst hPI
        refine wpAny_pyIter_list hl1 ?_
        refine wpAny_bind (wpAny_runValue ?_)
        have hlS : l < s.heap.objs.size := Heap.lt_size hol
        have hh3 : A.in1.in1.in1.handled = none := by simp [hh]
        have hneI : l ≠ (s.heap.push { cls := .type "set", dict := none, data := .set #[] 0 (.fresh 0 0 (!w.params.followText "set-order")) }).objs.size := by
          rw [Heap.size_push]; exact Nat.ne_of_lt (Nat.lt_succ_of_lt hlS)
        have hSf : s.heap.objs.size ∉ [(s.heap.push { cls := .type "set", dict := none, data := .set #[] 0 (.fresh 0 0 (!w.params.followText "set-order")) }).objs.size, l] := by
          rw [Heap.size_push]; simp only [List.mem_cons, List.mem_singleton, List.not_mem_nil, or_false, not_or]
          exact ⟨Nat.ne_of_lt (Nat.lt_succ_self _), Nat.ne_of_gt hlS⟩
        have hval : ∀ (i : Nat) (v : Value), items[i]? = some v → ∃ k t, ns[i]? = some k ∧ v = .int k t := fun i v hv => by
          have hi : i < ns.length := by rw [← hisz]; exact (Array.getElem?_eq_some_iff.mp hv).1
          obtain ⟨t, e⟩ := PyProof.Rows.IntsAre.int_at hit i v (by rw [Array.getElem?_toList]; exact hv)
          refine ⟨ns[i], t, List.getElem?_eq_getElem hi, ?_⟩
          rw [e, List.getD_eq_getElem?_getD, List.getElem?_eq_getElem hi] <;> rfl
        refine set_update_ints ((Walks.list hh3 _ l hneI items).toS) s.heap.objs.size hSf ns hisz hb hval (items.size - 0) 0 _ (by omega) (Nat.zero_le _) ⟨⟨_, Heap.get?_push_size _ rfl, rfl, rfl⟩, (hl1.push _)⟩ ⟨0, Nat.le_refl 0, setR_new_at (Heap.get?_push_of_some _ hS)⟩ fun s' c' hm hc' hS' => ?_
        obtain ⟨h', g2, d', tk', os'⟩ := s'
        have eg : g2 = s.gens := hm.gens
        have ed : d' = s.drawn := hm.drawn
        have eo : os' = s.os := hm.os
        subst eg; subst ed; subst eo
        rw [hisz] at hc'
        refine wpAny_pure (wpAny_pure ⟨rfl, h', tk', c', rfl, hS', hc', fun b o e => ?_⟩)
        have hb0 : b < s.heap.objs.size := Heap.lt_size e
        refine hm.heap b o ?_ (Heap.get?_push_of_some _ (Heap.get?_push_of_some _ e))
        simp only [List.mem_cons, List.mem_singleton, List.not_mem_nil, or_false, not_or]
        refine ⟨Nat.ne_of_lt hb0, ?_⟩
        rw [Heap.size_push]; exact Nat.ne_of_lt (Nat.lt_succ_of_lt hb0)
      · cases r₂ with
        | error e => exact hr₂
        | ok fl₂ =>
          cases fl₂ with
          | ret r =>
            obtain ⟨rfl, h', tk, c', rfl, hS', hc', hk'⟩ := hr₂
            repeat (any_goals (first | assumption | wp_step))
            exact h _ _ _ hS' hc' hk'
          | _ => exact hr₂.elim
    | _ => exact hr.elim

theorem call_set_tupT {l : Addr} {items : Array Value} (ks : List (Addr × List Int)) {Q : Value → Shared → Prop} (hh : A.handled = none) (hl : s.heap.IsTuple l items) (hit : items.toList = ks.map fun p => Value.ref p.1) (hk : ∀ p ∈ ks, IsT P w s.heap p.2 p.1) (hfew : ks.length < 64) (hu : A.units + 3 < cLine)
    (h : ∀ (h' : Heap) (tk : Nat) L es ep t, SetTR P w h' s.heap.objs.size L es ep t → Got ks ks.length L → (∀ b o, s.heap.get? b = some o → h'.get? b = some o) → Q (.ref s.heap.objs.size) { s with heap := h', toks := tk }) : wpAny (model P w) A (call (.type "set") [.ref l]) Q E s := by
  have hisz : items.size = ks.length := by
    have q := congrArg List.length hit
    rw [Array.length_toList, List.length_map] at q
    exact q
  obtain ⟨c, tl, hmro⟩ := F.called_set.mro
  have hmade := F.called_set.made
  have hsub := F.called_set.sub
  refine wpAny_call (codeAny_of_tree ?_)
  show wpAny _ _ (callAny (.type "set") _) _ _ _
  refine wpAny_pure ⟨Code.quiet_builtin _ (by decide +kernel), codeAny_builtin F.entry_type_call ?_⟩
  rw [Around.under_plain (weight_type_call_type "set" [.ref l] []) rfl]
  have h1 := F.called_set.notType
  have h2 := F.called_set.canCreate
  have hct := F.typeCall_set_1 (.ref l)
  repeat (any_goals (first | assumption | wp_step))
  refine codeAny_mono (code_set_led1 (.ref l) (E := E) (Q₁ := fun obj s₁ => obj = .ref s.heap.objs.size ∧ s₁ = { s with heap := (s.heap.push { cls := .type "set", dict := none, data := .set #[] 0 (.fresh 0 0 (!w.params.followText "set-order")) }) }) ⟨rfl, rfl⟩) fun r s₁ hr => ?_
  cases r with
  | error e => exact hr
  | ok fl =>
    cases fl with
    | ret obj =>
      obtain ⟨rfl, rfl⟩ := hr
      have hS : (s.heap.push { cls := .type "set", dict := none, data := .set #[] 0 (.fresh 0 0 (!w.params.followText "set-order")) }).get? s.heap.objs.size = some { cls := .type "set", dict := none, data := .set #[] 0 (.fresh 0 0 (!w.params.followText "set-order")) } := Heap.get?_push_size _ rfl
      have hT : Shared.TypeIs { s with heap := (s.heap.push { cls := .type "set", dict := none, data := .set #[] 0 (.fresh 0 0 (!w.params.followText "set-order")) }) } (.ref s.heap.objs.size) "set" := ⟨_, hS, rfl⟩
      have hli := F.called_set.init.lookup
      have hbi := F.called_set.init.bind (.ref s.heap.objs.size)
      repeat (any_goals (first | assumption | wp_step))
      refine codeAny_mono (codeAny_call_builtin (R := wants (fun r s₂ => r = .none ∧ ∃ h' tk L es ep t, s₂ = { s with heap := h', toks := tk } ∧ SetTR P w h' s.heap.objs.size L es ep t ∧ Got ks ks.length L ∧ (∀ b o, s.heap.get? b = some o → h'.get? b = some o)) E) F.called_set.init.plain F.entry_set_init (check_set_init_1 hT ?_)) fun r₂ s₂ hr₂ => ?_
      · obtain ⟨ol, hol, hcl, nl, hdl⟩ := hl
        obtain ⟨ocls, odict, odata, oslots⟩ := ol
        simp only at hcl hdl
        subst hcl; subst hdl
        have hol' : (s.heap.push { cls := .type "set", dict := none, data := .set #[] 0 (.fresh 0 0 (!w.params.followText "set-order")) }).get? l = some { cls := .type "tuple", dict := odict, data := .seq items nl, slots := oslots } := Heap.get?_push_of_some _ hol
        have hsls := F.sub_tuple_set
        have hslf := F.sub_tuple_frozenset
        have hne : (Value.type "tuple" == Value.type "dict") = false := by decide
        have hl1 : (s.heap.push { cls := .type "set", dict := none, data := .set #[] 0 (.fresh 0 0 (!w.params.followText "set-order")) }).IsTuple l items := ⟨_, hol', rfl, nl, rfl⟩
        unfold Builtin.«set.__init__» noKeywords Builtin.Frozenset.updateFrom
        generalize hPI : pyIter = PI
        wp_walk
        subst hPI
        refine wpAny_pyIter_tuple hl1 ?_
        refine wpAny_bind (wpAny_runValue ?_)
        have hlS : l < s.heap.objs.size := Heap.lt_size hol
        have hh3 : A.in1.in1.in1.handled = none := by simp [hh]
        have hneI : l ≠ (s.heap.push { cls := .type "set", dict := none, data := .set #[] 0 (.fresh 0 0 (!w.params.followText "set-order")) }).objs.size := by
          rw [Heap.size_push]; exact Nat.ne_of_lt (Nat.lt_succ_of_lt hlS)
        have hSf : s.heap.objs.size ∉ [(s.heap.push { cls := .type "set", dict := none, data := .set #[] 0 (.fresh 0 0 (!w.params.followText "set-order")) }).objs.size, l] := by
          rw [Heap.size_push]; simp only [List.mem_cons, List.mem_singleton, List.not_mem_nil, or_false, not_or]
          exact ⟨Nat.ne_of_lt (Nat.lt_succ_self _), Nat.ne_of_gt hlS⟩
        have hval : ∀ (i : Nat) (v : Value), items[i]? = some v → ∃ p, ks[i]? = some p ∧ v = .ref p.1 := fun i v hv => by
          have q : items.toList[i]? = some v := by rw [Array.getElem?_toList]; exact hv
          rw [hit, List.getElem?_map] at q
          cases hq : ks[i]? with
          | none => rw [hq] at q; cases q
          | some p =>
            rw [hq] at q
            exact ⟨p, rfl, (Option.some.inj q).symm⟩
        have none_of : ∀ b, s.heap.objs.size ≤ b → s.heap.get? b = none := fun b hb => by
          cases q : s.heap.get? b with
          | none => rfl
          | some o => exact absurd (Nat.lt_of_lt_of_le (Heap.lt_size q) hb) (Nat.lt_irrefl _)
        refine set_update_tups ((Walks.tuple hh3 _ l hneI items).toS) s.heap.objs.size hSf ks hisz hfew hval s.heap hk (none_of _ (Nat.le_refl _)) (fun b hb => none_of b (by
            rw [List.mem_singleton.mp hb, Heap.size_push]
            exact Nat.le_succ _)) hu (items.size - 0) 0 _ (by omega) (Nat.zero_le _) ⟨⟨_, Heap.get?_push_size _ rfl, rfl, rfl⟩, (hl1.push _)⟩ (fun b o e => Heap.get?_push_of_some _ (Heap.get?_push_of_some _ e)) ⟨[], #[], 0, _, setTR_fresh (Heap.get?_push_of_some _ hS), Got.zero ks⟩ fun s' L es ep t hm hS' g' hkp => ?_
        obtain ⟨h', g2, d', tk', os'⟩ := s'
        have eg : g2 = s.gens := hm.gens
        have ed : d' = s.drawn := hm.drawn
        have eo : os' = s.os := hm.os
        subst eg; subst ed; subst eo
        rw [hisz] at g'
        exact wpAny_pure (wpAny_pure ⟨rfl, h', tk', L, es, ep, t, rfl, hS', g', hkp⟩)
      · cases r₂ with
        | error e => exact hr₂
        | ok fl₂ =>
          cases fl₂ with
          | ret r =>
            obtain ⟨rfl, h', tk, L, es, ep, t, rfl, hS', g', hk'⟩ := hr₂
            repeat (any_goals (first | assumption | wp_step))
            exact h _ _ _ _ _ _ hS' g' hk'
          | _ => exact hr₂.elim
    | _ => exact hr.elim

end
end PL
set_option Elab.async false
set_option linter.all false
set_option maxRecDepth 100000
set_option maxHeartbeats 4000000
/-! PL19: sorted(set(xs)), len(set(xs)). -/
namespace PL
open PySem PySem.Spec PyProof.Rows L2 PySem.W
/-! ### things in order, each once -/
section
variable {α β : Type}
def insA (lt : α → α → Bool) (x : α) : List α → List α
  | [] => [x]
  | y :: ys => if lt x y = true then x :: y :: ys else if lt y x = true then y :: insA lt x ys else y :: ys
def ascA (lt : α → α → Bool) (xs : List α) : List α := xs.foldr (insA lt) []
/-- a strict order in which unlike things are apart -/
structure Str' (lt : α → α → Bool) : Prop where
  irr : ∀ a, lt a a = false
  tr : ∀ a b c, lt a b = true → lt b c = true → lt a c = true
  tot : ∀ a b, lt a b = false → lt b a = false → a = b
variable {lt : α → α → Bool}
theorem mem_insA (S : Str' lt) {x y : α} {ys : List α} : y ∈ insA lt x ys ↔ y = x ∨ y ∈ ys := by
  induction ys with
  | nil => simp [insA]
  | cons z zs ih =>
    unfold insA
    split
    · simp
    · split
      · rw [List.mem_cons, ih, List.mem_cons]
        constructor
        · rintro (h | h | h)
          · exact .inr (.inl h)
          · exact .inl h
          · exact .inr (.inr h)
        · rintro (h | h | h)
          · exact .inr (.inl h)
          · exact .inl h
          · exact .inr (.inr h)
      · rename_i h1 h2
        have : x = z := S.tot x z (by simpa using h1) (by simpa using h2)
        subst this
        simp
theorem pw_insA (S : Str' lt) {x : α} {ys : List α} (h : ys.Pairwise fun a b => lt a b = true) : (insA lt x ys).Pairwise fun a b => lt a b = true := by
  induction ys with
  | nil => simp [insA]
  | cons z zs ih =>
    rw [List.pairwise_cons] at h
    unfold insA
    split
    · rename_i h1
      refine List.pairwise_cons.mpr ⟨fun a ha => ?_, List.pairwise_cons.mpr h⟩
      rcases List.mem_cons.mp ha with rfl | ha
      · exact h1
      · exact S.tr _ _ _ h1 (h.1 a ha)
    · split
      · rename_i h2
        refine List.pairwise_cons.mpr ⟨fun a ha => ?_, ih h.2⟩
        rcases (mem_insA S).mp ha with rfl | ha
        · exact h2
        · exact h.1 a ha
      · exact List.pairwise_cons.mpr h
theorem mem_ascA (S : Str' lt) {y : α} {xs : List α} : y ∈ ascA lt xs ↔ y ∈ xs := by
  induction xs with
  | nil => simp [ascA]
  | cons x xs ih => rw [ascA, List.foldr_cons, mem_insA S, List.mem_cons]; exact or_congr_right ih
theorem pw_ascA (S : Str' lt) {xs : List α} : (ascA lt xs).Pairwise fun a b => lt a b = true := by
  induction xs with
  | nil => exact List.Pairwise.nil
  | cons x xs ih => rw [ascA, List.foldr_cons]; exact pw_insA S ih
theorem Str'.ne (S : Str' lt) {a b : α} (h : lt a b = true) : a ≠ b := fun e => by rw [e, S.irr] at h; cases h
theorem asc_eq (S : Str' lt) : ∀ {xs ys : List α}, xs.Pairwise (fun a b => lt a b = true) → ys.Pairwise (fun a b => lt a b = true) → (∀ a, a ∈ xs ↔ a ∈ ys) → xs = ys
  | [], [], _, _, _ => rfl
  | [], y :: _, _, _, h => by have := (h y).mpr List.mem_cons_self; cases this
  | x :: _, [], _, _, h => by have := (h x).mp List.mem_cons_self; cases this
  | x :: xs, y :: ys, h1, h2, h => by
    rw [List.pairwise_cons] at h1 h2
    have e : x = y := by
      rcases List.mem_cons.mp ((h x).mp List.mem_cons_self) with e | e
      · exact e
      · rcases List.mem_cons.mp ((h y).mpr List.mem_cons_self) with e' | e'
        · exact e'.symm
        · have := S.tr _ _ _ (h1.1 y e') (h2.1 x e)
          rw [S.irr] at this; cases this
    subst e
    rw [asc_eq S h1.2 h2.2 fun a => ?_]
    constructor
    · intro ha
      rcases List.mem_cons.mp ((h a).mp (List.mem_cons_of_mem _ ha)) with e | e
      · exact absurd e.symm (S.ne (h1.1 a ha))
      · exact e
    · intro ha
      rcases List.mem_cons.mp ((h a).mpr (List.mem_cons_of_mem _ ha)) with e | e
      · exact absurd e.symm (S.ne (h2.1 a ha))
      · exact e
theorem asc_id (S : Str' lt) {xs : List α} (h : xs.Pairwise fun a b => lt a b = true) : ascA lt xs = xs := asc_eq S (pw_ascA S) h fun _ => mem_ascA S
theorem insA_map {e : β → α} {x : β} {ys : List β} : (insA (fun a b => lt (e a) (e b)) x ys).map e = insA lt (e x) (ys.map e) := by
  induction ys with
  | nil => rfl
  | cons y ys ih =>
    rw [List.map_cons]
    unfold insA
    split
    · rfl
    · split
      · rw [List.map_cons, ih]
      · rfl
theorem ascA_map {e : β → α} {xs : List β} : (ascA (fun a b => lt (e a) (e b)) xs).map e = ascA lt (xs.map e) := by
  induction xs with
  | nil => rfl
  | cons x xs ih =>
    rw [List.map_cons, ascA, ascA, List.foldr_cons, List.foldr_cons, insA_map]
    rw [ascA, ascA] at ih
    rw [ih]
theorem ascA_congr {lt lt' : α → α → Bool} (h : ∀ a b, lt a b = lt' a b) (xs : List α) : ascA lt xs = ascA lt' xs := by
  rw [show lt = lt' from funext fun a => funext fun b => h a b]
theorem asc_len (S : Str' lt) {xs ks : List α} (hn : ks.Nodup) (h : ∀ a, a ∈ ks ↔ a ∈ xs) : ks.length = (ascA lt xs).length := by
  have hn2 : (ascA lt xs).Nodup := (pw_ascA S).imp fun h => S.ne h
  exact ((List.perm_ext_iff_of_nodup hn hn2).mpr fun a => (h a).trans (mem_ascA S).symm).length_eq
end
def ltI (a b : Int) : Bool := decide (a < b)
theorem str_int : Str' ltI := ⟨fun a => by simp [ltI], fun a b c h1 h2 => by simp [ltI] at *; omega, fun a b h1 h2 => by simp [ltI] at *; omega⟩
def ltTs : List Int → List Int → Bool
  | [], [] => false
  | [], _ :: _ => true
  | _ :: _, [] => false
  | x :: xs, y :: ys => decide (x < y) || (decide (x = y) && ltTs xs ys)
theorem ltTs_iff : ∀ xs ys : List Int, ltTs xs ys = true ↔ lexL (fun a b => a < b) xs ys
  | [], [] => by simp [ltTs, lexL]
  | [], _ :: _ => by simp [ltTs, lexL]
  | _ :: _, [] => by simp [ltTs, lexL]
  | x :: xs, y :: ys => by simp [ltTs, lexL, ltTs_iff xs ys]
theorem ltTs_tot : ∀ xs ys : List Int, ltTs xs ys = false → ltTs ys xs = false → xs = ys
  | [], [], _, _ => rfl
  | [], _ :: _, h, _ => by simp [ltTs] at h
  | _ :: _, [], _, h => by simp [ltTs] at h
  | x :: xs, y :: ys, h1, h2 => by
    simp only [ltTs, Bool.or_eq_false_iff, decide_eq_false_iff_not, Bool.and_eq_false_iff] at h1 h2
    have : x = y := by omega
    subst this
    rw [ltTs_tot xs ys (h1.2.resolve_left (by simp)) (h2.2.resolve_left (by simp))]
theorem str_Ts : Str' ltTs := ⟨fun a => by
    rw [← Bool.not_eq_true, ltTs_iff]
    exact (ltq_T ltq_int).irr a, fun a b c h1 h2 => by
    rw [ltTs_iff] at *
    exact (ltq_T ltq_int).trans h1 h2, ltTs_tot⟩
/-! ### rules -/
section
variable {P : Program} {w : World} {A : Around} {E : Value → Shared → Prop} {s : Shared}
theorem readsAll_ints {h : Heap} : ∀ {k : List Int} {vs : List Value}, ItemsAre (PySem.intKind P w) k vs → ReadsAll h vs (k.map PyData.int) []
  | [], _, .nil => .nil
  | k :: ks, _, .cons r t => by
    obtain ⟨tk, rfl⟩ := Value.isInt_shape r
    exact ReadsAll.cons (as := []) (bs := []) (.int k tk) (readsAll_ints t)
theorem reads_isT {h : Heap} {k : List Int} {b : Addr} (x : IsT P w h k b) : Reads h (.ref b) (.tuple (k.map PyData.int)) [] := by
  obtain ⟨o, items, n, ho, hc, hd, hi⟩ := x
  exact .tuple ho hc hd (readsAll_ints hi)
def encT (p : Addr × List Int) : PyData := .tuple (p.2.map .int)
theorem toDs_ints : ∀ k : List Int, toDs (k.map PV.int) = k.map PyData.int
  | [] => rfl
  | k :: ks => by rw [List.map_cons, toDs, toDs_ints ks]; rfl
theorem encT_eq (p : Addr × List Int) : encT p = toD (eT PV.int p.2) := by
  unfold encT eT
  rw [toD, toDs_ints]
theorem le_encT {p q : Addr × List Int} : dataLe false encT p q = true ↔ ltTs q.2 p.2 = false := by
  have h := leP_q (ltq_T ltq_int) (a := p.2) (b := q.2)
  have e : dataLe false encT p q = leP (eT PV.int p.2) (eT PV.int q.2) := by
    unfold leP
    rw [dataLe_eq, dataLe_eq]
    dsimp only
    rw [encT_eq, encT_eq]
  rw [e, h, ← ltTs_iff]
  simp
theorem sorted_setD {a : Addr} {L : List (Addr × List Int)} {es : Array (Int × Value)} {ep : Nat} {t : SetTable} {Q : Value → Shared → Prop} (R : SetTR P w s.heap a L es ep t) (hh : A.handled = none) (hu : A.units + 8 < cLine)
    (hne : ∀ p ∈ L, p.2 ≠ [])
    (hQ : ∀ s' p (out : List Value) (c : Nat) (L' : List (Addr × List Int)), (∀ b o, s.heap.get? b = some o → s'.heap.get? b = some o) → s'.gens = s.gens → s'.os = s.os → s.heap.objs.size ≤ p →
      s'.heap.get? p = some (seqObj "list" out.toArray c) → out = L'.map (fun q => Value.ref q.1) → L'.Perm L → L'.Pairwise (fun q r => dataLe false encT q r = true) → Q (.ref p) s') :
    wpAny (model P w) A (call (.builtin "sorted") [.ref a]) Q E s := by
  obtain ⟨o, ho, hex, hd⟩ := R.ob
  have hsz := R.size
  have hfew := R.few
  refine Calls.call_function_entry kind_sorted plain_sorted entry_sorted (args_sorted1 _) ?_
  unfold Builtin.«sorted»
  refine wpAny_bind (m := checkCount "sorted" 1 1 _) (wpAny_pure ?_)
  refine wpAny_bind (collect_set (A := A.in1) hh ⟨o, ho, hex.1, hd⟩ R.fits (by unfold scanBound; omega) R.tab.ris R.led fun s1 vs k1 hz g1 o1 pm => ?_)
  have hes : es.toList.map (·.2) = L.map fun q => Value.ref q.1 := by
    rw [R.rows]
    unfold L2.rowsOf
    rw [List.map_map] <;> rfl
  rw [hes] at pm
  obtain ⟨L1, e1, p1⟩ : ∃ L1 : List (Addr × List Int), vs = List.map (fun q => Value.ref q.1) L1 ∧ L1.Perm L := by
    have gen : ∀ (vs ws : List Value), vs.Perm ws → ∀ L : List (Addr × List Int), ws = L.map (fun q => Value.ref q.1) → ∃ L1 : List (Addr × List Int), vs = List.map (fun q => Value.ref q.1) L1 ∧ L1.Perm L := by
      intro vs ws hp
      induction hp with
      | nil => exact fun L h => ⟨L, h, .refl _⟩
      | cons x h ih =>
        intro L hL
        cases L with
        | nil => cases hL
        | cons q L =>
          rw [List.map_cons, List.cons.injEq] at hL
          obtain ⟨L1, e, p⟩ := ih L hL.2
          exact ⟨q :: L1, by rw [List.map_cons, ← e, hL.1], p.cons q⟩
      | swap x y l =>
        intro L hL
        match L, hL with
        | [], hL => cases hL
        | [_], hL => simp at hL
        | q :: r :: L, hL =>
          rw [List.map_cons, List.map_cons, List.cons.injEq, List.cons.injEq] at hL
          exact ⟨r :: q :: L, by rw [List.map_cons, List.map_cons, ← hL.1, ← hL.2.1, ← hL.2.2], .swap q r L⟩
      | trans h1 h2 ih1 ih2 =>
        intro L hL
        obtain ⟨L2, e2, p2⟩ := ih2 L hL
        obtain ⟨L1, e1, p1⟩ := ih1 L2 e2
        exact ⟨L1, e1, p1.trans p2⟩
    exact gen _ _ pm L rfl
  have hvl : vs.length < 64 := by rw [pm.length_eq, List.length_map]; exact hfew
  refine wpAny_bind (wpAny_newList ?_ (by rw [sizeLine_eq]; omega))
  have hoL : (s1.heap.push (seqObj "list" vs.toArray 0)).get? s1.heap.objs.size = some (seqObj "list" vs.toArray 0) := Heap.get?_push_size _ rfl
  have tk : ∀ q ∈ L1, Reads (s1.heap.push (seqObj "list" vs.toArray 0)) (.ref q.1) (encT q) [] := fun q hq => reads_isT (P := P) (w := w) (isT_keep (R.tup q (p1.mem_iff.mp hq)) fun b u e => Heap.get?_push_of_some _ (k1 b u e))
  have ea : EachIs (fun (v : Value) (b : Addr × List Int) => v = Value.ref b.1) vs L1 := by
    rw [e1]
    have : ∀ L : List (Addr × List Int), EachIs (fun (v : Value) (b : Addr × List Int) => v = Value.ref b.1) (L.map fun q => Value.ref q.1) L := by
      intro L
      induction L with
      | nil => exact .nil
      | cons q L ih => exact .cons rfl ih
    exact this L1
  have er : EachIs (fun v b => ∃ as, Reads (s1.heap.push (seqObj "list" vs.toArray 0)) v (encT b) as ∧ s1.heap.objs.size ∉ as) vs L1 := each_with ea fun v b hb e => ⟨[], by rw [e]; exact tk b hb, by simp⟩
  have al : AllAlike (L1.map encT) := fun d hd d' hd' => by
    obtain ⟨p, _, rfl⟩ := List.mem_map.mp hd
    obtain ⟨q, _, rfl⟩ := List.mem_map.mp hd'
    rw [encT_eq, encT_eq]
    exact (ltq_T ltq_int).al p.2 q.2
  have so : Sortable (L1.map encT) := .inl fun d hd => by
    obtain ⟨p, hp, rfl⟩ := List.mem_map.mp hd
    have := hne p (p1.mem_iff.mp hp)
    cases hk : p.2 with
    | nil => exact absurd hk this
    | cons x xs => exact ⟨_, _, by unfold encT; rw [hk, List.map_cons]⟩
  have dep : ∀ b ∈ L1, (encT b).depth ≤ 3 := fun b _ => by
    rw [encT_eq]
    exact depth_toD 2 _ (by
      unfold eT
      rw [datN, datNs_all, List.all_eq_true]
      intro p hp
      obtain ⟨i, _, rfl⟩ := List.mem_map.mp hp
      simp [datN])
  refine wpAny_bind (wpAny_holding (list_sort_data (s := { s1 with heap := s1.heap.push (seqObj "list" vs.toArray 0) }) hoL ea er al so (by rw [p1.length_eq, sizeLine_eq]; omega) (fun b hb => by have := dep b hb; show A.units + 1 + 1 + _ < _; omega) fun out a1 a2 => ?_))
  obtain ⟨c, hc⟩ := sortedHeap_at (vs := vs) (out := out.toArray) hoL
  have eo : out = (L1.mergeSort (dataLe false encT)).map fun q => Value.ref q.1 := by
    have : ∀ {vs : List Value} {L : List (Addr × List Int)}, EachIs (fun (v : Value) (b : Addr × List Int) => v = Value.ref b.1) vs L → vs = L.map fun q => Value.ref q.1 := by
      intro vs L h
      induction h with
      | nil => rfl
      | cons r _ ih => rw [List.map_cons, r, ih]
    exact this a2
  have pw : (L1.mergeSort (dataLe false encT)).Pairwise (fun q r => dataLe false encT q r = true) := by
    refine List.pairwise_mergeSort (fun a b c h1 h2 => ?_) (fun a b => ?_) L1
    · rw [le_encT] at *
      rw [← Bool.not_eq_true] at *
      intro h
      cases e : ltTs b.2 a.2 with
      | true => exact h1 e
      | false =>
        cases e2 : ltTs a.2 b.2 with
        | true => exact h2 (str_Ts.tr _ _ _ h e2)
        | false =>
          have := str_Ts.tot _ _ e e2
          rw [this] at h2
          exact h2 h
    · rw [Bool.or_eq_true, le_encT, le_encT]
      cases e : ltTs b.2 a.2 with
      | false => exact .inl rfl
      | true =>
        right
        rw [← Bool.not_eq_true]
        intro h
        have := str_Ts.tr _ _ _ e h
        rw [str_Ts.irr] at this
        cases this
  refine wpAny_pure ⟨_, rfl, hQ _ s1.heap.objs.size out c _ (fun b u e => ?_) g1 o1 hz hc eo ((List.mergeSort_perm _ _).trans p1) pw⟩
  have q := k1 b u e
  have hlt := Heap.lt_size q
  show (sortedHeap (s1.heap.push (seqObj "list" vs.toArray 0)) s1.heap.objs.size vs out.toArray).get? b = some u
  rw [sortedHeap_old (Nat.ne_of_lt hlt) (by rw [size_push']; exact Nat.lt_succ_of_lt hlt)]
  exact Heap.get?_push_of_some _ q
end
end PL
set_option Elab.async false
set_option linter.all false
set_option maxRecDepth 100000
set_option maxHeartbeats 4000000
/-! PL20: sorted(set(xs)), len(set(xs)): rules. -/
namespace PL
open PySem PySem.Spec PyProof.Rows L2
section
variable {X : Cx}
def rSetIs (K : PySem.W.Frag) (w : World) : List V → Hp → VK → Prop := fun xs H Q => ∃ (p : Addr) (ns : List Int), xs = [V.ref p] ∧ (SqL K H p (ns.map V.int) ∨ SqT K H p (ns.map V.int)) ∧ ns.length < 64 ∧
  ∀ a, H a = none → Q (.ref a) (upd H a (SetO w a (fun j => decide (j ∈ ns)) (ascA ltI ns).length))
theorem setR_len {w : World} {h : Heap} {a : Addr} {ns : List Int} {c : Nat} (R : SetR w h a (fun j => decide (j ∈ ns)) c) : c = (ascA ltI ns).length := by
  obtain ⟨o, es, ep, t, ho, hex, hd, g, nd, hm, hb, hf, hn, hr, hl⟩ := R
  have := asc_len (xs := ns) str_int nd fun a => (hm a).symm.trans (by simp)
  rw [List.length_map, Array.length_toList, hn] at this
  exact this
theorem asc_le {α : Type} {lt : α → α → Bool} (xs : List α) : (ascA lt xs).length ≤ xs.length := by
  have h : ∀ (x : α) (ys : List α), (insA lt x ys).length ≤ ys.length + 1 := by
    intro x ys
    induction ys with
    | nil => simp [insA]
    | cons y ys ih =>
      unfold insA
      split
      · simp
      · split
        · simp only [List.length_cons]; omega
        · simp
  induction xs with
  | nil => simp [ascA]
  | cons x xs ih =>
    rw [ascA, List.foldr_cons]
    have := h x (xs.foldr (insA lt) [])
    rw [ascA] at ih
    simp only [List.length_cons]
    omega
theorem cr_setIs (hc : X.calm = true) : CallR X (.type "set") (rSetIs X.K X.w) := by
  intro pins s σ H xs us Q I r h
  obtain ⟨l, ns, rfl, hs, h64, q⟩ := h
  rw [Vals.ref1 r]
  have hn : H s.heap.objs.size = none := I.hok.fresh (Nat.le_refl _)
  have fin : ∀ (h' : Heap) (tk c : Nat), SetR X.w h' s.heap.objs.size (fun j => decide (j ∈ ns)) c → (∀ b o, s.heap.get? b = some o → h'.get? b = some o) → EP X pins σ Q (.ref s.heap.objs.size) { s with heap := h', toks := tk } := fun h' tk c R k => by
    have e := setR_len R
    subst e
    exact ⟨.ref s.heap.objs.size, upd H s.heap.objs.size (SetO X.w s.heap.objs.size (fun j => decide (j ∈ ns)) (ascA ltI ns).length), I.laid (t' := tk) k (Nat.le_refl _) (setO_new R), rfl, q _ hn⟩
  rcases hs with hs | hs
  · obtain ⟨its, rv, pl, hz⟩ := I.list hs
    exact call_set_lstI ns (I.ok.hd hc) pl.isList (by simpa using rv.ints) (by unfold scanBound; omega) fun h' tk c R _ k => fin h' tk c R k
  · obtain ⟨its, rv, pl, hz⟩ := I.tuple hs
    exact call_set_tupI ns (I.ok.hd hc) pl (by simpa using rv.ints) (by unfold scanBound; omega) fun h' tk c R _ k => fin h' tk c R k
def rSetTs (K : PySem.W.Frag) (P : Program) (w : World) : List V → Hp → VK → Prop := fun xs H Q => ∃ (l : Addr) (ks : List (Addr × List Int)), xs = [V.ref l] ∧ (SqL K H l (ks.map fun p => V.ref p.1) ∨ SqT K H l (ks.map fun p => V.ref p.1)) ∧ (∀ p ∈ ks, SqT K H p.1 (p.2.map V.int)) ∧ ks.length < 64 ∧
  ∀ a L, H a = none → (∀ p ∈ L, p ∈ ks) → (∀ p ∈ ks, p.2 ∈ L.map (·.2)) → (L.map (·.2)).Nodup → Q (.ref a) (upd H a (SetTO P w a L))
theorem cr_setTs (hc : X.calm = true) (hu : X.A.units + 64 < cLine) : CallR X (.type "set") (rSetTs X.K X.prog X.w) := by
  intro pins s σ H xs us Q I r h
  obtain ⟨l, ks, rfl, hl, hk, hf, q⟩ := h
  rw [Vals.ref1 r]
  have hn : H s.heap.objs.size = none := I.hok.fresh (Nat.le_refl _)
  have fin : ∀ (h' : Heap) (tk : Nat) L es ep t, SetTR X.prog X.w h' s.heap.objs.size L es ep t → Got ks ks.length L → (∀ b o, s.heap.get? b = some o → h'.get? b = some o) → EP X pins σ Q (.ref s.heap.objs.size) { s with heap := h', toks := tk } := fun h' tk L es ep t R g k =>
    ⟨.ref s.heap.objs.size, upd H s.heap.objs.size (SetTO X.prog X.w s.heap.objs.size L), I.laid (t' := tk) k (Nat.le_refl _) (setTO_new R.t0), rfl, q _ L hn (fun p hp => List.mem_of_mem_take (g.sub p hp)) (fun p hp => g.all p (by rw [List.take_length]; exact hp)) R.nd⟩
  rcases hl with hl | hl
  · obtain ⟨its, rv, pl, hz⟩ := I.list hl
    exact call_set_tups (P := X.prog) (w := X.w) ks (I.ok.hd hc) pl.isList (by simpa using refs_of_vals rv) (fun p hp => I.isT (hk p hp)) hf (by omega) fin
  · obtain ⟨its, rv, pl, hz⟩ := I.tuple hl
    exact call_set_tupT (P := X.prog) (w := X.w) ks (I.ok.hd hc) pl (by simpa using refs_of_vals rv) (fun p hp => I.isT (hk p hp)) hf (by omega) fin
def rSetAny (K : PySem.W.Frag) (P : Program) (w : World) : List V → Hp → VK → Prop := fun xs H Q => rSetIs K w xs H Q ∨ rSetTs K P w xs H Q
theorem cr_setAny (hc : X.calm = true) (hu : X.A.units + 64 < cLine) : CallR X (.type "set") (rSetAny X.K X.prog X.w) := by
  intro pins s σ H xs us Q I r h
  rcases h with h | h
  · exact cr_setIs hc pins s σ H xs us Q I r h
  · exact cr_setTs hc hu pins s σ H xs us Q I r h
/-! sorted -/
def rSortedTs (K : PySem.W.Frag) (P : Program) (w : World) : List V → Hp → VK → Prop := fun vs H Q => ∃ (a : Addr) (L : List (Addr × List Int)), vs = [V.ref a] ∧ H a = some (SetTO P w a L) ∧ (∀ p ∈ L, SqT K H p.1 (p.2.map V.int)) ∧ (∀ p ∈ L, p.2 ≠ []) ∧
  ∀ (L' : List (Addr × List Int)) (p : Addr), L'.Perm L → (L'.map (·.2)).Pairwise (fun x y => ltTs x y = true) → H p = none → Q (.ref p) (upd H p (.lst (L'.map fun q => V.ref q.1)))
theorem cr_sortedTs (hc : X.calm = true) (hu : X.A.units + 64 < cLine) : CallR X (.builtin "sorted") (rSortedTs X.K X.prog X.w) := by
  intro pins s σ H vs us Q I r h
  obtain ⟨a, L, rfl, ha, hk, hne, q⟩ := h
  have R0 : SetT0 X.prog X.w s.heap a L := (I.hok a _ ha).1
  obtain ⟨es, ep, t, R⟩ := R0.full fun p hp => I.isT (hk p hp)
  rw [Vals.ref1 r]
  refine sorted_setD R (I.ok.hd hc) (by omega) hne fun s' p out c L' k g o hp hg hout pm pw => ?_
  have hfew : L'.length < 64 := by rw [pm.length_eq]; exact R.few
  have hlen : (L'.map fun q => V.ref q.1).length ≤ sizeLine := by rw [List.length_map, sizeLine_eq]; omega
  have hn : H p = none := I.hok.fresh hp
  have hv : Vals (L'.map fun q => V.ref q.1) out := by rw [hout]; exact vals_of_refs L'
  have J : Inv X pins σ (upd H p (.lst (L'.map fun q => V.ref q.1))) { s with heap := s'.heap, gens := s'.gens, drawn := s'.drawn, toks := s'.toks } :=
    I.call (ch := []) (Un.laid k hp hn) (I.hok.laid k hp ⟨hlen, out, c, hv, hg⟩) (by rw [g]; exact I.bare) (fun _ z => nomatch z)
  have e : s' = { s with heap := s'.heap, gens := s'.gens, drawn := s'.drawn, toks := s'.toks } := by
    cases s'
    cases s
    cases o
    rfl
  rw [e]
  have nd : (L'.map (·.2)).Nodup := (pm.map (·.2)).nodup_iff.mpr R.nd
  refine ⟨.ref p, _, J, rfl, q L' p pm ?_ hn⟩
  rw [List.pairwise_map]
  have nd2 := List.pairwise_map.mp nd
  refine (pw.and nd2).imp fun {x y} h => ?_
  have h1 := le_encT.mp h.1
  cases c : ltTs x.2 y.2 with
  | true => rfl
  | false => exact absurd (str_Ts.tot _ _ c h1) h.2
def rSortAny (K : PySem.W.Frag) (P : Program) (w : World) : List V → Hp → VK → Prop := fun xs H Q => rSortedSet w xs H Q ∨ rSortedTs K P w xs H Q
theorem cr_sortAny (hc : X.calm = true) (hu : X.A.units + 64 < cLine) : CallR X (.builtin "sorted") (rSortAny X.K X.prog X.w) := by
  intro pins s σ H xs us Q I r h
  rcases h with h | h
  · exact cr_sortedSet hc pins s σ H xs us Q I r h
  · exact cr_sortedTs hc hu pins s σ H xs us Q I r h
def rLenAny (K : PySem.W.Frag) (P : Program) (w : World) : List V → Hp → VK → Prop := fun xs H Q => (∃ a S n, xs = [V.ref a] ∧ H a = some (SetO w a S n) ∧ Q (.int n) H) ∨ ∃ a L, xs = [V.ref a] ∧ H a = some (SetTO P w a L) ∧ (∀ p ∈ L, SqT K H p.1 (p.2.map V.int)) ∧ Q (.int L.length) H
theorem cr_lenAny : CallR X (.builtin "len") (rLenAny X.K X.prog X.w) := by
  intro pins s σ H xs us Q I r h
  rcases h with ⟨a, S, n, rfl, ha, q⟩ | ⟨a, L, rfl, ha, hk, q⟩
  · rw [Vals.ref1 r]
    obtain ⟨o, es, ep, t, ho, hex, hd, g, nd, hm, hb, hf, hn, hr, hl⟩ := setO_get I ha
    have : scanBound < 2 ^ 63 := by unfold scanBound; decide
    exact call_len_set ho hex hd hf (by omega) ⟨.int n, H, I.tok _, ⟨_, by rw [hn]⟩, q⟩
  · rw [Vals.ref1 r]
    have R0 : SetT0 X.prog X.w s.heap a L := (I.hok a _ ha).1
    obtain ⟨es, ep, t, R⟩ := R0.full fun p hp => I.isT (hk p hp)
    obtain ⟨o, ho, hex, hd⟩ := R.ob
    have hsz := R.size
    have few := R.few
    have hf := R.fits
    exact call_len_set ho hex hd hf (by omega) ⟨.int L.length, H, I.tok _, ⟨_, by rw [hsz]⟩, q⟩
end
end PL
set_option Elab.async false
set_option linter.all false
set_option maxRecDepth 100000
set_option maxHeartbeats 4000000
/-! PL21: sorted(set(xs)), len(set(xs)): the operations. -/
namespace PL
open PySem PySem.Spec PyProof.Rows L2
def tupsOf : List PV → Option (List (List Int))
  | [] => some []
  | .tup xs :: r => (intsOf xs).bind fun k => (tupsOf r).map fun ks => k :: ks
  | _ => none
theorem tupsOf_eq : ∀ {ps : List PV} {ks : List (List Int)}, tupsOf ps = some ks → ps = ks.map (eT PV.int)
  | [], _, h => by cases h; rfl
  | p :: ps, ks, h => by
    cases p with
    | tup xs =>
      unfold tupsOf at h
      rw [Option.bind_eq_some_iff] at h
      obtain ⟨k, h1, h⟩ := h
      rw [Option.map_eq_some_iff] at h
      obtain ⟨ks, h2, rfl⟩ := h
      rw [List.map_cons, ← tupsOf_eq h2, intsOf_eq h1]
    | _ => cases h
theorem tupsOf_map : ∀ ks : List (List Int), tupsOf (ks.map (eT PV.int)) = some ks
  | [] => rfl
  | k :: ks => by
    rw [List.map_cons]
    show (intsOf (k.map PV.int)).bind _ = _
    rw [intsOf_map, Option.bind_some, tupsOf_map ks]; rfl
def setI (ns : List Int) : Option (List Int) := if ns.length < 64 then some (ascA ltI ns) else none
def setT (ks : List (List Int)) : Option (List (List Int)) := if ks.length < 64 ∧ ks.all (fun k => !k.isEmpty) = true then some (ascA ltTs ks) else none
def seqP : PV → Option (List PV)
  | .lst xs => some xs
  | .tup xs => some xs
  | _ => none
def clSS : List PV → Option Vl
  | [p] => (seqP p).bind fun xs => match intsOf xs with
    | some ns => (setI ns).map fun zs => .own (zs.map PV.int)
    | none => (tupsOf xs).bind fun ks => (setT ks).map fun zs => .own (zs.map (eT PV.int))
  | _ => none
def clLS : List PV → Option Vl
  | [p] => (seqP p).bind fun xs => match intsOf xs with
    | some ns => (setI ns).map fun zs => .fz (.int zs.length)
    | none => (tupsOf xs).bind fun ks => (setT ks).map fun zs => .fz (.int zs.length)
  | _ => none
theorem rpl_tups {R : RE} {F H : Hp} (hs : Sub F H) : ∀ {ks : List (List Int)} {vs : List V}, RpL R F (ks.map (eT PV.int)) vs → ∃ cs : List (Addr × List Int), vs = cs.map (fun c => V.ref c.1) ∧ cs.map (·.2) = ks ∧ ∀ c ∈ cs, SqT R.K H c.1 (c.2.map V.int) ∧ Rp R F (eT PV.int c.2) (V.ref c.1)
  | [], _, .nil => ⟨[], rfl, rfl, fun _ h => by cases h⟩
  | k :: ks, v :: vs, .cons r t => by
    obtain ⟨cs, e1, e2, h⟩ := rpl_tups hs t
    have hq : Rq R F H (.tup (k.map PV.int)) v := .inl r
    obtain ⟨a, us, rfl, h2, r1⟩ := hq.tup hs
    rw [r1.ints] at h2
    refine ⟨(a, k) :: cs, by rw [List.map_cons, e1], by rw [List.map_cons, e2], fun c hc => ?_⟩
    rcases List.mem_cons.mp hc with rfl | hc
    · exact ⟨h2, r⟩
    · exact h c hc
theorem seqP_q {R : RE} {F H : Hp} {p : PV} {x : V} {xs : List PV} (q : Rq R F H p x) (s : Sub F H) (h : seqP p = some xs) : ∃ a vs, x = .ref a ∧ (SqL R.K H a vs ∨ SqT R.K H a vs) ∧ RpL R F xs vs := by
  cases p with
  | lst ys =>
    cases h
    obtain ⟨a, vs, rfl, h2, r1⟩ := q.lst s
    exact ⟨a, vs, rfl, .inl (SqL.of h2), r1⟩
  | tup ys =>
    cases h
    obtain ⟨a, vs, rfl, h2, r1⟩ := q.tup s
    exact ⟨a, vs, rfl, .inr h2, r1⟩
  | _ => cases h
theorem setI_len {ns zs : List Int} (h : setI ns = some zs) : ns.length < 64 ∧ zs = ascA ltI ns := by
  unfold setI at h
  split at h
  · cases h; exact ⟨by assumption, rfl⟩
  · cases h
theorem setT_len {ns zs : List (List Int)} (h : setT ns = some zs) : ns.length < 64 ∧ (∀ k ∈ ns, k ≠ []) ∧ zs = ascA ltTs ns := by
  unfold setT at h
  split at h
  · rename_i c
    cases h
    refine ⟨c.1, fun k hk z => ?_, rfl⟩
    have := List.all_eq_true.mp c.2 k hk
    rw [z] at this
    cases this
  · cases h
theorem keys_iff {L ks : List (Addr × List Int)} (h1 : ∀ p ∈ L, p ∈ ks) (h2 : ∀ p ∈ ks, p.2 ∈ L.map (·.2)) (a : List Int) : a ∈ L.map (·.2) ↔ a ∈ ks.map (·.2) := by
  constructor
  · intro h
    obtain ⟨p, hp, rfl⟩ := List.mem_map.mp h
    exact List.mem_map.mpr ⟨p, h1 p hp, rfl⟩
  · intro h
    obtain ⟨p, hp, rfl⟩ := List.mem_map.mp h
    exact h2 p hp
def rSS (K : PySem.W.Frag) (P : Program) (w : World) : List V → Hp → VK → Prop := fun xs H Q => rSetAny K P w xs H fun z H1 => rSortAny K P w [z] H1 Q
def rLS (K : PySem.W.Frag) (P : Program) (w : World) : List V → Hp → VK → Prop := fun xs H Q => rSetAny K P w xs H fun z H1 => rLenAny K P w [z] H1 Q
theorem upd_at {H : Hp} {a : Addr} {o : HO} : upd H a o a = some o := by unfold upd; simp
theorem sqT_upd {K : PySem.W.Frag} {H : Hp} {a b : Addr} {o : HO} {vs : List V} (n : H a = none) (h : SqT K H b vs) : SqT K (upd H a o) b vs := Sub.sqT (fun c u e => by
  unfold upd
  by_cases z : c = a
  · subst z; rw [n] at e; cases e
  · simp [z, e]) h
theorem cok_SS {R : RE} {P : Program} {w : World} : CallOk R clSS (rSS R.K P w) := by
  intro e F H B ps xs r Q hB hp ho k
  unfold clSS at ho
  split at ho
  · rename_i p
    obtain ⟨x, rfl, q⟩ := hp.one
    rw [Option.bind_eq_some_iff] at ho
    obtain ⟨items, h1, ho⟩ := ho
    obtain ⟨a, vs, rfl, h2, r1⟩ := seqP_q q hB.sub h1
    split at ho
    · rename_i ns hi
      rw [Option.map_eq_some_iff] at ho
      obtain ⟨zs, hz, rfl⟩ := ho
      obtain ⟨h64, rfl⟩ := setI_len hz
      rw [intsOf_eq hi] at r1
      rw [r1.ints] at h2
      refine .inl ⟨a, ns, rfl, h2, h64, fun b nb => .inl ⟨b, _, _, rfl, upd_at, by have := asc_le (lt := ltI) ns; omega, fun ns' p hp1 hm hl hn => ?_⟩⟩
      have e1 : ns' = ascA ltI ns := asc_eq str_int (hp1.imp fun h => by simpa [ltI] using h) (pw_ascA str_int) fun a => (hm a).trans (by rw [mem_ascA str_int]; simp)
      subst e1
      exact k _ _ _ ((hB.lay nb).new_lst hn (rpl_ints _))
    · rw [Option.bind_eq_some_iff] at ho
      obtain ⟨ks, hi, ho⟩ := ho
      rw [Option.map_eq_some_iff] at ho
      obtain ⟨zs, hz, rfl⟩ := ho
      obtain ⟨h64, hne, rfl⟩ := setT_len hz
      rw [tupsOf_eq hi] at r1
      obtain ⟨cs, rfl, rfl, hc⟩ := rpl_tups hB.sub r1
      refine .inr ⟨a, cs, rfl, h2, fun p hp => (hc p hp).1, by simpa using h64, fun b L nb l1 l2 nd => .inr ⟨b, L, rfl, upd_at, fun p hp => sqT_upd nb (hc p (l1 p hp)).1, fun p hp => hne _ (List.mem_map.mpr ⟨p, l1 p hp, rfl⟩), fun L' p pm pw hn => ?_⟩⟩
      have e1 : L'.map (·.2) = ascA ltTs (cs.map (·.2)) := asc_eq str_Ts pw (pw_ascA str_Ts) fun a => by
        rw [mem_ascA str_Ts, ← keys_iff l1 l2]
        exact (pm.map (·.2)).mem_iff
      have hr : RpL R F (L'.map fun q => eT PV.int q.2) (L'.map fun q => V.ref q.1) := by
        have : ∀ L' : List (Addr × List Int), (∀ q ∈ L', q ∈ cs) → RpL R F (L'.map fun q => eT PV.int q.2) (L'.map fun q => V.ref q.1) := by
          intro L'
          induction L' with
          | nil => intro _; exact .nil
          | cons q L' ih => intro h; exact .cons (hc q (h q List.mem_cons_self)).2 (ih fun r hr => h r (List.mem_cons_of_mem _ hr))
        exact this L' fun q hq => l1 q (pm.mem_iff.mp hq)
      have e2 : (L'.map fun q => eT PV.int q.2) = (ascA ltTs (cs.map (·.2))).map (eT PV.int) := by rw [← e1, List.map_map]; rfl
      rw [e2] at hr
      exact k _ _ _ ((hB.lay nb).new_lst hn hr)
  · cases ho
theorem cok_LS {R : RE} {P : Program} {w : World} : CallOk R clLS (rLS R.K P w) := by
  intro e F H B ps xs r Q hB hp ho k
  unfold clLS at ho
  split at ho
  · rename_i p
    obtain ⟨x, rfl, q⟩ := hp.one
    rw [Option.bind_eq_some_iff] at ho
    obtain ⟨items, h1, ho⟩ := ho
    obtain ⟨a, vs, rfl, h2, r1⟩ := seqP_q q hB.sub h1
    split at ho
    · rename_i ns hi
      rw [Option.map_eq_some_iff] at ho
      obtain ⟨zs, hz, rfl⟩ := ho
      obtain ⟨h64, rfl⟩ := setI_len hz
      rw [intsOf_eq hi] at r1
      rw [r1.ints] at h2
      exact .inl ⟨a, ns, rfl, h2, h64, fun b nb => .inl ⟨b, _, _, rfl, upd_at, k _ _ F ((hB.lay nb).push_fz (.int _))⟩⟩
    · rw [Option.bind_eq_some_iff] at ho
      obtain ⟨ks, hi, ho⟩ := ho
      rw [Option.map_eq_some_iff] at ho
      obtain ⟨zs, hz, rfl⟩ := ho
      obtain ⟨h64, hne, rfl⟩ := setT_len hz
      rw [tupsOf_eq hi] at r1
      obtain ⟨cs, rfl, rfl, hc⟩ := rpl_tups hB.sub r1
      refine .inr ⟨a, cs, rfl, h2, fun p hp => (hc p hp).1, by simpa using h64, fun b L nb l1 l2 nd => .inr ⟨b, L, rfl, upd_at, fun p hp => sqT_upd nb (hc p (l1 p hp)).1, ?_⟩⟩
      have := asc_len (xs := cs.map (·.2)) str_Ts nd (keys_iff l1 l2)
      rw [List.length_map] at this
      rw [this]
      exact k _ _ F ((hB.lay nb).push_fz (.int _))
  · cases ho
section
variable {X : Cx} {R : RE} {a : Expr} {fa : PF} {fs : PFs} {pos p pos2 p2 : Pos}
/-- f(T(e)), f a built-in function, T a built-in type -/
theorem ev_call2 {id T : String} {x y : Str} {op : List PV → Option Vl} {rd1 rd2 : List V → Hp → VK → Prop} (hc2 : CallR X (.builtin id) rd2) (hc1 : CallR X (.type T) rd1) (ho : CallOk R op fun xs H Q => rd1 xs H fun z H1 => rd2 [z] H1 Q)
    (hg : Gl X x) (hm : X.mg x = none) (hv : bootBuiltins x = some (.builtin id)) (hg1 : Gl X y) (hm1 : X.mg y = none) (hv1 : bootBuiltins y = some (.type T)) (h : Av X R [a] fs)
    (hn : x ≠ "__name__" := by decide) (hdb : (x == ("__debug__" : Str)) = false := by decide) (hn1 : y ≠ "__name__" := by decide) (hdb1 : (y == ("__debug__" : Str)) = false := by decide) (h1 : starEach [a] X.env = (false, eval a X.env) :: starEach [] X.env := by rfl)
    (h2 : starEach [.Call (.Name y p2) [a] [] pos2] X.env = (false, eval (.Call (.Name y p2) [a] [] pos2) X.env) :: starEach [] X.env := by rfl) :
    Ev X R (.Call (.Name x p) [.Call (.Name y p2) [a] [] pos2] [] pos) (eNary op fs) :=
  ⟨nary_len h.len, pe_mono (pe_callB hc2 hg hm hv (pa_cons (pe_callTy hc1 hg1 hm1 hv1 h.pa hn1 hdb1 h1 rfl) pa_nil h2) hn hdb h2 rfl) (tCB_of ho)⟩
end
/-! the typed layer -/
theorem clSS_iL {ns zs : List Int} (h : setI ns = some zs) : clSS [eL PV.int ns] = some (.own (zs.map PV.int)) := by
  show (match intsOf (ns.map PV.int) with | some ns => _ | none => _) = _
  rw [intsOf_map]; dsimp only; rw [h]; rfl
theorem clSS_iT {ns zs : List Int} (h : setI ns = some zs) : clSS [eT PV.int ns] = some (.own (zs.map PV.int)) := clSS_iL h
theorem clLS_iL {ns zs : List Int} (h : setI ns = some zs) : clLS [eL PV.int ns] = some (.fz (.int zs.length)) := by
  show (match intsOf (ns.map PV.int) with | some ns => _ | none => _) = _
  rw [intsOf_map]; dsimp only; rw [h]; rfl
theorem clLS_iT {ns zs : List Int} (h : setI ns = some zs) : clLS [eT PV.int ns] = some (.fz (.int zs.length)) := clLS_iL h
section
variable {α : Type} (e : α → PV) (f : α → List Int)
def setF (ks : List α) : Option (List α) := if ks.length < 64 ∧ ks.all (fun k => !(f k).isEmpty) = true then some (ascA (fun a b => ltTs (f a) (f b)) ks) else none
variable {e f}
theorem setF_T {ks zs : List α} (h : setF f ks = some zs) : setT (ks.map f) = some (zs.map f) := by
  unfold setF at h
  split at h
  · rename_i c
    cases h
    unfold setT
    rw [if_pos ⟨by simpa using c.1, by rw [List.all_map]; exact c.2⟩, ascA_map (e := f) (lt := ltTs)]
  · cases h
theorem intsOf_tup {ks : List (List Int)} (h : ks ≠ []) : intsOf (ks.map (eT PV.int)) = none := by
  cases ks with
  | nil => exact absurd rfl h
  | cons k ks => rfl
theorem clSS_F (he : ∀ a, e a = eT PV.int (f a)) {ks zs : List α} (h : setF f ks = some zs) : clSS [eL e ks] = some (.own (zs.map e)) := by
  have h2 := setF_T h
  have e1 : ∀ ks : List α, ks.map e = (ks.map f).map (eT PV.int) := fun ks => by rw [List.map_map]; exact List.map_congr_left fun a _ => he a
  show (match intsOf (ks.map e) with | some ns => _ | none => _) = _
  by_cases c : ks = []
  · subst c
    unfold setF at h
    rw [if_pos ⟨by simp, rfl⟩] at h
    cases h; rfl
  · rw [e1, intsOf_tup (by simpa using c)]
    dsimp only
    rw [tupsOf_map, Option.bind_some, h2, e1]; rfl
theorem clSS_FT (he : ∀ a, e a = eT PV.int (f a)) {ks zs : List α} (h : setF f ks = some zs) : clSS [eT e ks] = some (.own (zs.map e)) := clSS_F he h
theorem clLS_F (he : ∀ a, e a = eT PV.int (f a)) {ks zs : List α} (h : setF f ks = some zs) : clLS [eL e ks] = some (.fz (.int zs.length)) := by
  have h2 := setF_T h
  have e1 : ∀ ks : List α, ks.map e = (ks.map f).map (eT PV.int) := fun ks => by rw [List.map_map]; exact List.map_congr_left fun a _ => he a
  show (match intsOf (ks.map e) with | some ns => _ | none => _) = _
  by_cases c : ks = []
  · subst c
    unfold setF at h
    rw [if_pos ⟨by simp, rfl⟩] at h
    cases h; rfl
  · rw [e1, intsOf_tup (by simpa using c)]
    dsimp only
    rw [tupsOf_map, Option.bind_some, h2, Option.map_some, List.length_map]
theorem clLS_FT (he : ∀ a, e a = eT PV.int (f a)) {ks zs : List α} (h : setF f ks = some zs) : clLS [eT e ks] = some (.fz (.int zs.length)) := clLS_F he h
end
def fP2 (p : Int × Int) : List Int := [p.1, p.2]
theorem eP2_T (p : Int × Int) : eP2 PV.int PV.int p = eT PV.int (fP2 p) := rfl
def fP3 (p : Int × Int × Int) : List Int := [p.1, p.2.1, p.2.2]
theorem eP3_T (p : Int × Int × Int) : eP3 PV.int PV.int PV.int p = eT PV.int (fP3 p) := rfl
end PL
set_option Elab.async false
set_option linter.all false
set_option maxRecDepth 100000
set_option maxHeartbeats 4000000
/-! PL22: xs[::-1] of lists and tuples. -/
namespace PL
open PySem PySem.Spec PyProof.Rows L2 HT
section
variable {prog : Program} {w : World} {A : Around} {E : Value → Shared → Prop} {s : Shared}
theorem adjust_back (n : Nat) : Builtin.Slice.sliceAdjust none none (-1) (n : Int) = ((n : Int) - 1, -1) := by
  first
  | rfl
  | simp [Builtin.Slice.sliceAdjust]
theorem places_back (n : Nat) : Builtin.Slice.slicePlaces ((n : Int) - 1) (-1) (-1) = n := by
  unfold Builtin.Slice.slicePlaces
  by_cases h : n = 0
  · subst h; rfl
  · have h1 : ¬ ((-1 : Int) > 0) := by decide
    have h2 : (n : Int) - 1 > -1 := by omega
    simp only [h1, if_false, h2, if_true]
    rw [show (- -1 : Int) = 1 by decide, Int.ediv_one]
    omega
theorem pick_back (xs : Array Value) : ((List.range xs.size).filterMap fun (k : Nat) => xs[(((xs.size : Int) - 1) + (k : Int) * (-1)).toNat]?).toArray = xs.toList.reverse.toArray := by
  have h := PySem.W.krv_pick xs
  unfold slicePick at h
  rw [PySem.W.krv_bounds] at h
  have h2 : ((sliceRange ((xs.size : Int) - 1) (-1) (-1)).filterMap (xs[·]?)).toArray = xs.toList.reverse.toArray := h
  rw [PySem.W.krv_sliceRange, List.filterMap_map] at h2
  rw [← h2]
  have gen : ∀ l : List Nat, (∀ k ∈ l, k < xs.size) → (l.filterMap fun (k : Nat) => xs[(((xs.size : Int) - 1) + (k : Int) * (-1)).toNat]?) = l.filterMap ((fun x => xs[x]?) ∘ fun k => xs.size - 1 - k) := by
    intro l
    induction l with
    | nil => intro _; rfl
    | cons k l ih =>
      intro hl
      have h0 := hl k List.mem_cons_self
      have e : (((xs.size : Int) - 1) + (k : Int) * (-1)).toNat = xs.size - 1 - k := by omega
      rw [List.filterMap_cons, List.filterMap_cons, ih fun j hj => hl j (List.mem_cons_of_mem _ hj), e]; rfl
  rw [gen _ fun k hk => List.mem_range.mp hk]
theorem sliceApplied_back {sl : Addr} {vl vu vs : Value} {n : Nat} {Q : Int × Int × Nat → Shared → Prop} (hs : s.heap.IsSliceOf sl vl vu vs) (pl : IsPart vl none) (pu : IsPart vu none) (ps : IsPart vs (some (-1)))
    (h : Q ((n : Int) - 1, -1, n) s) : wpAny (model prog w) A (Builtin.Slice.sliceApplied (.ref sl) (pure (n : Int))) Q E s := by
  obtain ⟨os, hos, hcs, hds⟩ := id hs
  unfold Builtin.Slice.sliceApplied Builtin.Slice.sliceFields
  refine wpAny_bind (wpAny_bind (wpAny_field hos hds (x := vl) rfl (wpAny_bind (wpAny_field hos hds (x := vu) rfl (wpAny_bind (wpAny_field hos hds (x := vs) rfl (wpAny_pure ?_)))))))
  refine wpAny_bind (slicePart_ ps ?_)
  show wpAny _ _ (if ((-1 : Int) == 0) = true then _ else _) _ _ s
  rw [if_neg (by decide)]
  refine wpAny_bind (slicePart_ pl (wpAny_bind (slicePart_ pu (wpAny_bind (wpAny_pure ?_)))))
  show wpAny _ _ (match Builtin.Slice.sliceAdjust none none (-1) (n : Int) with | (lo, hi) => pure (lo, (-1 : Int), Builtin.Slice.slicePlaces lo hi (-1))) _ _ s
  rw [adjust_back n]
  show wpAny _ _ (pure ((n : Int) - 1, (-1 : Int), Builtin.Slice.slicePlaces ((n : Int) - 1) (-1) (-1))) _ _ s
  rw [places_back]
  exact wpAny_pure h
theorem getItem_tuple_rev {t sl : Addr} {items : Array Value} {vl vu vs : Value} {Q : Value → Shared → Prop} (ht : IsTup s.heap t items) (hs : s.heap.IsSliceOf sl vl vu vs) (pl : IsPart vl none) (pu : IsPart vu none) (ps : IsPart vs (some (-1)))
    (h : Q (.ref s.heap.objs.size) { s with heap := s.heap.push { cls := .type "tuple", data := .seq items.toList.reverse.toArray } })
    (hsz : items.size ≤ sizeLine) : wpAny (model prog w) A (getItem (.ref t) (.ref sl)) Q E s := by
  have htake : sizeOk (.seq items.toList.reverse.toArray) := by
    show items.toList.reverse.toArray.size ≤ sizeLine
    rw [List.size_toArray, List.length_reverse, Array.length_toList]
    exact hsz
  obtain ⟨os, hos, hcs, hds⟩ := id hs
  have hTs : s.TypeIs (.ref sl) "slice" := ⟨os, hos, hcs⟩
  unfold getItem
  try with_reducible refine wpAny_holding ?_
  first | refine wpAny_bind (wpAny_pure ?_) | skip
  refine wpAny_bind (wpAny_sequenceKey ht.typeIs (by decide) ?_)
  refine wpAny_bind (wpAny_callSpecial?_slot (name := Str.ofString "__getitem__") ht.typeIs PyProof.Rows.slot_tuple_getitem
    (wpAny_call_entry PyProof.Rows.slot_tuple_getitem ht.typeIs entry_tuple_getitem ?_ (args_tuple_getitem _ _)))
  show wpAny _ _ (Builtin.Tuple.tupleItemsOf (.ref t) >>= _) _ _ s
  refine wpAny_bind (tupleItemsOf_ ht ?_)
  refine wpAny_bind (wpAny_typeOf hTs ?_)
  rw [if_pos (by decide)]
  refine wpAny_bind (sliceApplied_back hs pl pu ps ?_)
  have hno : ¬ ((((items.size : Int) - 1) == 0 && (-1 : Int) == 1 && items.size == items.size) = true) := by simp
  show wpAny _ _ (if (((items.size : Int) - 1) == 0 && (-1 : Int) == 1 && items.size == items.size) = true then _ else _) _ _ s
  rw [if_neg hno, pick_back]
  first
    | exact wpAny_bind (m := Builtin.Tuple.tupleExact _) (wpAny_newObj_type (wpAny_pure ⟨_, rfl, wpAny_pure h⟩) htake)
    | exact wpAny_bind (m := Builtin.Tuple.tupleExact _) (wpAny_newObj_type (wpAny_bind (wpAny_pure (wpAny_pure ⟨_, rfl, wpAny_pure h⟩))) htake)
    | exact wpAny_bind (wpAny_bind (m := Builtin.Tuple.tupleExact _) (wpAny_newObj_type (wpAny_pure (wpAny_pure ⟨_, rfl, wpAny_pure h⟩)) htake))
    | exact wpAny_bind (wpAny_bind (m := Builtin.Tuple.tupleExact _) (wpAny_newObj_type (wpAny_pure ⟨_, rfl, wpAny_pure h⟩) htake))
end
section
variable {X : Cx}
def tRevA (K : PySem.W.Frag) (te : TE) : TE := fun σ H Q => te σ H fun x H1 => ∃ a xs, x = .ref a ∧ ((SqL K H1 a xs ∧ ∀ p, H1 p = none → Q (.ref p) (upd H1 p (.lst xs.reverse))) ∨ (SqT K H1 a xs ∧ ∀ p, H1 p = none → Q (.ref p) (upd H1 p (.tup xs.reverse))))
theorem pe_revA {e : Expr} {te : TE} {k : Nat} {p1 p2 p3 pos : Pos} (he : PE X e te) : PE X (.Subscript e (.Slice none none (some (.UnaryOp .USub (.Constant (.int 1) k p1) p2)) p3) pos) (tRevA X.K te) := by
  refine ⟨fun pins s σ H Q I h => ?_⟩
  refine Subscript_ (thn (he.run pins s σ H _ I h) fun v s1 ⟨x, H1, I1, r1, q1⟩ => ?_)
  obtain ⟨a, xs, ex, q⟩ := q1
  subst ex
  cases r1
  have hst : PO X (some (.UnaryOp .USub (.Constant (.int 1) k p1) p2)) (tPart (tUn (rU fun i => .int (-i)) (tC (.int 1)))) := po_some (pe_un un_neg pe_int)
  refine wpAny_Slice (thn (po_none.run pins s1 σ H1 (fun o H2 => o = none ∧ H2 = H1) I1 ⟨rfl, rfl⟩) fun vl s2 ⟨l, H2, I2, pl, el, e2⟩ => ?_)
  subst el e2
  refine thn (po_none.run pins s2 σ H2 (fun o H3 => o = none ∧ H3 = H2) I2 ⟨rfl, rfl⟩) fun vu s3 ⟨u, H3, I3, pu, eu, e3⟩ => ?_
  subst eu e3
  refine thn (hst.run pins s3 σ H3 (fun o H4 => o = some (-1) ∧ H4 = H3) I3 ⟨1, rfl, -1, rfl, rfl, rfl⟩) fun vs s4 ⟨o, H4, I4, ps, eo, e4⟩ => ?_
  subst eo e4
  have I5 : Inv X pins σ H4 { s4 with heap := s4.heap.push { cls := .type "slice", data := .fields #[vl, vu, vs] } } := I4.kept (t' := s4.toks) fun b ob q => Heap.get?_push_of_some _ q
  show wpAny (model X.prog X.w) X.A (subscriptTail e (.Slice none none (some (.UnaryOp .USub (.Constant (.int 1) k p1) p2)) p3) (.ref a) (.ref s4.heap.objs.size)) (EP X pins σ Q) X.xe { s4 with heap := s4.heap.push { cls := .type "slice", data := .fields #[vl, vu, vs] } }
  rcases q with ⟨hx, q⟩ | ⟨hx, q⟩
  · obtain ⟨its, r, ht, hz⟩ := I5.list hx
    have hlen := r.length
    refine tail_any (ops := [.ref a, .ref s4.heap.objs.size]) ht.isList.typeIs (PySem.slot_list_getitem.lookup) ?_ (by with_unfolding_all rfl)
    refine wpAny_getItem_list_slice ht.isList (Heap.IsSliceOf.new _ vl vu vs) pl pu ps (by decide) ?_ (by rw [List.size_toArray]; omega)
    rw [PySem.W.krv_pick]
    refine ⟨.ref _, _, I5.laid (t' := s4.toks) (o := .lst xs.reverse) (fun b ob q => Heap.get?_push_of_some _ q) (Nat.le_refl _) ?_, rfl, q _ (I5.hok.fresh (Nat.le_refl _))⟩
    exact ⟨by rw [List.length_reverse]; exact hz, _, 0, r.reverse, Heap.get?_push_size _ rfl⟩
  · obtain ⟨its, r, ht, hz⟩ := I5.tuple hx
    have hlen := r.length
    refine tail_any (ops := [.ref a, .ref s4.heap.objs.size]) ht.typeIs (PyProof.Rows.slot_tuple_getitem.lookup) ?_ (by with_unfolding_all rfl)
    refine getItem_tuple_rev ht (Heap.IsSliceOf.new _ vl vu vs) pl pu ps ?_ (by rw [List.size_toArray]; omega)
    refine ⟨.ref _, _, I5.laid (t' := s4.toks) (o := .tup xs.reverse) (fun b ob q => Heap.get?_push_of_some _ q) (Nat.le_refl _) ?_, rfl, q _ (I5.hok.fresh (Nat.le_refl _))⟩
    exact ⟨by rw [List.length_reverse]; exact hz, _, r.reverse, IsTup.new _ _⟩
/-! the raw function -/
def opRev : PV → Option Vl
  | .lst xs => some (.own xs.reverse)
  | .tup xs => some (.fz (.tup xs.reverse))
  | _ => none
def eRev2 (fa : PF) : PF := fun ρ => (fa ρ).bind fun x => (cont x.2 x.1).bind fun p => (opRev p).map fun v => (v.sl, x.2)
theorem eRev2_some {fa : PF} {ρ ρ' : List Sl} {r : Sl} (h : eRev2 fa ρ = some (r, ρ')) : ∃ r1 p v, fa ρ = some (r1, ρ') ∧ cont ρ' r1 = some p ∧ opRev p = some v ∧ r = v.sl := by
  unfold eRev2 at h
  rw [Option.bind_eq_some_iff] at h
  obtain ⟨⟨r1, ρ1⟩, q1, h⟩ := h
  rw [Option.bind_eq_some_iff] at h
  obtain ⟨p, q2, h⟩ := h
  rw [Option.map_eq_some_iff] at h
  obtain ⟨v, q3, h⟩ := h
  cases h
  exact ⟨r1, p, v, q1, q2, q3, rfl⟩
variable {R : RE} {a : Expr} {fa : PF} {pos : Pos}
theorem ev_rev2 (hK : R.K = X.K) {k : Nat} {p1 p2 p3 : Pos} (ha : Ev X R a fa) : Ev X R (.Subscript a (.Slice none none (some (.UnaryOp .USub (.Constant (.int 1) k p1) p2)) p3) pos) (eRev2 fa) := by
  refine ⟨fun ρ r ρ' q => ?_, pe_mono (pe_revA ha.pe) fun σ H Q q => ?_⟩
  · obtain ⟨r1, _, _, q1, _⟩ := eRev2_some q
    exact ha.len _ _ _ q1
  · obtain ⟨e, F, ρ, tm, r, ρ', hl', hB, hf, k⟩ := q
    obtain ⟨r1, p, v, h1, h4, h5, rfl⟩ := eRev2_some hf
    refine ⟨e, F, ρ, tm, r1, ρ', hl', hB, h1, fun x1 H1 F1 B1 k1 => ?_⟩
    have B1' := B1
    rw [List.append_assoc] at B1'
    have g1 : (ρ'.zip σ ++ (tm ++ [(tmpOf r1, some x1)]))[(ρ'.zip σ ++ tm).length]? = some (tmpOf r1, some x1) := by
      rw [← List.append_assoc]; exact app_last
    have q1 := B1'.rq g1 k1 h4
    cases p with
    | lst xs =>
      cases h5
      obtain ⟨b, vs, ex, h2, rr⟩ := q1.lst B1.sub
      exact ⟨b, vs, ex, .inl ⟨SqL.of h2, fun p n => k _ _ _ (B1.pop.new_lst n rr.reverse) pk_own⟩⟩
    | tup xs =>
      cases h5
      obtain ⟨b, vs, ex, h2, rr⟩ := q1.tup B1.sub
      exact ⟨b, vs, ex, .inr ⟨hK ▸ h2, fun p n => k _ _ _ (B1.pop.new_tup n rr.reverse) pk_fz⟩⟩
    | _ => cases h5
end
/-! the typed layer -/
variable {A A1 : List AS} {f : PF} {r : RF}
theorem ej_rev2 {v : Vl} (d : EJ A f r A1) (h : opRev r.pv = some v) : EJ A (eRev2 f) (rfV v) A1 := fun ρ hρ => by
  obtain ⟨s, ρ1, e, o, g⟩ := d ρ hρ
  refine ⟨v.sl, ρ1, ?_, rfV_ok, g⟩
  unfold eRev2
  rw [e, Option.bind_some]
  show (cont ρ1 s).bind _ = _
  rw [rf_cont o g, Option.bind_some, h]; rfl
theorem ej_rev2L {α : Type} {e : α → PV} {xs : List α} (d : EJ A f r A1) (h : r.pv = eL e xs) : EJ A (eRev2 f) (.own (xs.reverse.map e)) A1 := by
  have := ej_rev2 (v := .own (xs.map e).reverse) d (by rw [h]; rfl)
  rw [← List.map_reverse] at this
  exact this
theorem ej_rev2T {α : Type} {e : α → PV} {xs : List α} (d : EJ A f r A1) (h : r.pv = eT e xs) : EJ A (eRev2 f) (.fz (eT e xs.reverse)) A1 := by
  have := ej_rev2 (v := .fz (.tup (xs.map e).reverse)) d (by rw [h]; rfl)
  rw [← List.map_reverse] at this
  exact this
end PL
set_option Elab.async false
set_option linter.all false
set_option maxRecDepth 100000
set_option maxHeartbeats 1000000
/-! PL23: a peeked list that is frozen meanwhile. -/
namespace PL
open PySem
variable {A A1 A2 : List AS} {f g : PF} {r2 : RF} {i : Nat}
theorem pk_frozen {xs : List PV} {s : Sl} {ρ : List Sl} (o : RF.ok A (.pk i xs) s) (g : Ag A2 ρ) (h : A2[i]? = some (.fz (.lst xs))) : PL.cont ρ s = some (.lst xs) := by
  rcases o with o | ⟨o, _⟩
  · rw [o]; rfl
  · rw [o]
    obtain ⟨t, e, k⟩ := g.get h
    rw [show t = .fz (.lst xs) from k] at e
    show (match ρ[i]? with | some (.fz p) => some p | some (.own xs) => some (PV.lst xs) | _ => none) = _
    rw [e]
theorem ej_binZ {op : PV → PV → Option Vl} {xs ys : List PV} (d1 : EJ A f (.pk i xs) A1) (d2 : EJ A1 g r2 A2) (h2 : A2[i]? = some (.fz (.lst xs))) (h : op (.lst xs) r2.pv = some (.own ys)) : EJ A (eBin op f g) (.own ys) A2 := fun ρ hρ => by
  obtain ⟨s, ρ1, e1, o1, g1⟩ := d1 ρ hρ
  obtain ⟨t, ρ2, e2, o2, g2⟩ := d2 ρ1 g1
  exact ⟨.own ys, ρ2, stBin (v := .own ys) e1 e2 (pk_frozen o1 g2 h2) (rf_cont o2 g2) h, rfl, g2⟩
end PL
set_option Elab.async false
set_option linter.all false
set_option maxRecDepth 100000
set_option maxHeartbeats 4000000
/-! PL24: sorted(xs) of tuples of ints, empty ones among them. -/
namespace PL
open PySem PySem.Spec PyProof.Rows L2 SrtO
section
variable {prog : Program} {w : World} {A : Around} {E : Value → Shared → Prop} {s : Shared}
theorem tup_type {M : Model} {h : Heap} {v : Value} {ns : List Int} (x : TS.TupInts h v ns) : PySem.W.Looks M h (typeOf v) (.type "tuple") := by
  obtain ⟨a, xs, rfl, ⟨o, ho, hc, n, hd⟩, i⟩ := x
  rw [← hc]
  exact (PySem.W.Looks.ld ho).andThen .now
theorem firsts_tups {M : Model} {k : Value → List Int} : ∀ (vs : List Value), (∀ v ∈ vs, TS.TupInts s.heap v (k v)) → ∃ fs : List (Option Value), fs.length = vs.length ∧ (fs.all (·.isSome) = vs.all fun v => !(k v).isEmpty) ∧ (fs[0]?.bind id).isSome = (vs[0]?.any fun v => !(k v).isEmpty) ∧ ∀ (A : Around) (E : Value → Shared → Prop) (Q : List (Option Value) → Shared → Prop), Q fs s → wpAny M A (vs.mapM firstOfTuple') Q E s
  | [], _ => ⟨[], rfl, rfl, rfl, fun A E Q h => by rw [List.mapM_nil]; exact wpAny_pure h⟩
  | v :: vs, hv => by
    obtain ⟨fs, e1, e2, _, h⟩ := firsts_tups (M := M) vs fun u hu => hv u (List.mem_cons_of_mem _ hu)
    have tv := hv v List.mem_cons_self
    have ty : PySem.W.Looks M s.heap (typeOf v) (.type "tuple") := tup_type tv
    obtain ⟨a, xs, ev, ⟨o, ho, hc, n, hd⟩, i⟩ := tv
    have e0 : xs[0]?.isSome = !(k v).isEmpty := by
      have hl := i.length
      rw [Array.length_toList] at hl
      cases hk : k v with
      | nil => rw [hk] at hl; simp at hl; simp [hl]
      | cons x r => rw [hk] at hl; simp at hl; simp [hl]
    refine ⟨xs[0]? :: fs, by simp [e1], ?_, ?_, fun A E Q hq => ?_⟩
    · rw [List.all_cons, List.all_cons, e2, e0]
    · simpa using e0
    · rw [List.mapM_cons]
      refine wpAny_bind ?_
      rw [PySem.W.kas_first_eq]
      refine wpAny_bind (ty.here ?_)
      rw [if_neg (by first | decide | simp)]
      rw [ev]
      refine wpAny_bind (listItems_at ho hd (wpAny_pure ?_))
      exact wpAny_bind (h A E (fun bs s' => wpAny M A (pure (xs[0]? :: bs)) Q E s') (wpAny_pure hq))
theorem kind_tups {M : Model} {k : Value → List Int} {vs : List Value} (hv : ∀ v ∈ vs, TS.TupInts s.heap v (k v)) (hn : (vs.all fun v => !(k v).isEmpty) = false) : ∃ κ, (κ = general' ∨ κ = oneType') ∧ ∀ (Q : SortKind → Shared → Prop) (E : Value → Shared → Prop), Q κ s → wpAny M A (keyKind' vs.toArray) Q E s := by
  obtain ⟨fs, e1, e2, e3, hf⟩ := firsts_tups (M := M) vs hv
  have hno : ¬ (fs.toArray.all (fun x => x.isSome) = true) := by rw [List.all_toArray, e2, hn]; simp
  by_cases c : (fs[0]?.bind id).isSome = true
  · refine ⟨general', .inl rfl, fun Q E h => ?_⟩
    rw [keyKind'_eq, List.mapM_toArray, map_eq_pure_bind]
    refine wpAny_bind (wpAny_bind (hf _ _ _ (wpAny_pure ?_)))
    have c' : (fs.toArray[0]?.bind id).isSome = true := by simpa using c
    rw [if_neg hno, if_pos c']
    exact wpAny_pure h
  · refine ⟨oneType', .inr rfl, fun Q E h => ?_⟩
    rw [keyKind'_eq, List.mapM_toArray, map_eq_pure_bind]
    refine wpAny_bind (wpAny_bind (hf _ _ _ (wpAny_pure ?_)))
    have c' : ¬ (fs.toArray[0]?.bind id).isSome = true := by simpa using c
    rw [if_neg hno, if_neg c']
    obtain ⟨v1, rest, rfl⟩ : ∃ v1 rest, vs = v1 :: rest := by
      cases vs with
      | nil => simp at hn
      | cons v r => exact ⟨v, r, rfl⟩
    rw [oneTypeOnly'_eq, List.mapM_toArray, map_eq_pure_bind]
    refine wpAny_bind (wpAny_bind (wpAny_bind (PySem.W.kas_mapM (r := Value.type "tuple") _ (fun v hm Q' hq => (tup_type (hv v hm)).here hq) (wpAny_pure ?_))))
    have hall : ((List.map (fun _ => Value.type "tuple") (v1 :: rest)).toArray.all fun x => x == Value.type "tuple") = true := by
      simp only [List.all_toArray, List.all_map, List.all_eq_true]
      intro _ _
      rfl
    have h0 : (List.map (fun _ => Value.type "tuple") (v1 :: rest)).toArray[0]? = some (Value.type "tuple") := by simp
    rw [h0]
    simp only [hall, if_true]
    exact wpAny_pure (wpAny_pure h)
theorem lt_one {v u : Value} {ns ms : List Int} {Q : Bool → Shared → Prop} (hu : A.units < cLine) (hv : TS.TupInts s.heap v ns) (hw : TS.TupInts s.heap u ms) (h : Q (HT.lexLt ns ms) s) : wpAny (model prog w) A (keyLt' oneType' v u) Q E s := by
  obtain ⟨a, xs, rfl, ⟨⟨cls, dd, data, sl⟩, ho, hc, n, hd⟩, ia⟩ := hv
  obtain ⟨b, ys, rfl, ⟨⟨cls2, dd2, data2, sl2⟩, ho2, hc2, n2, hd2⟩, ib⟩ := hw
  simp only at hc hd hc2 hd2
  subst hc hd hc2 hd2
  rw [keyLt'_oneType, oneLt'_eq]
  simp only [if_true]
  refine wpAny_bind (wpAny_cRoomFor hu ?_)
  refine wpAny_bind (wpAny_callSpecialIfBound?_slot ⟨_, ho, rfl⟩ PySem.F.slot_tuple_lt (call_meets PySem.F.slot_tuple_lt ⟨_, ho, rfl⟩ PySem.F.entry_tuple_lt (PySem.F.args_tuple_lt_2 _ _) (HT.tuple_lt_ints a b xs ys n n2 dd dd2 sl sl2 ns ms ia ib) ⟨ho, ho2, ?_⟩))
  exact wpAny_truthy_bool h
theorem lt_gen {v u : Value} {ns ms : List Int} {Q : Bool → Shared → Prop} (hu : A.units < cLine) (hv : TS.TupInts s.heap v ns) (hw : TS.TupInts s.heap u ms) (h : Q (HT.lexLt ns ms) s) : wpAny (model prog w) A (keyLt' general' v u) Q E s := by
  obtain ⟨a, xs, rfl, h1, ia⟩ := hv
  obtain ⟨b, ys, rfl, h2, ib⟩ := hw
  rw [show keyLt' general' (.ref a) (.ref b) = oneLt' false (.ref a) (.ref b) from rfl, oneLt'_eq]
  simp only [Bool.false_eq_true, if_false]
  refine wpAny_bind (HT.lt_tupInts h1 h2 ia ib hu ?_)
  exact wpAny_truthy_bool h
theorem tups_sortable {a : Addr} {vs : List Value} {k : Value → List Int} (hu : A.units < cLine) (hv : ∀ v ∈ vs, TS.TupInts s.heap v (k v)) (hn : (vs.all fun v => !(k v).isEmpty) = false) (ha : ∀ o, s.heap.get? a = some o → o.cls ≠ .type "tuple") : SortableO prog w A s a vs fun v u => HT.lexLt (k v) (k u) := by
  intro h' keep
  have hv' : ∀ v ∈ vs, TS.TupInts h' v (k v) := fun v hm => (hv v hm).keeps fun b o e c => keep b o (fun z => by subst z; exact ha o e c) e
  obtain ⟨κ, hκ, hk⟩ := kind_tups (M := model prog w) (A := A) (s := { s with heap := h' }) hv' hn
  refine ⟨κ, hk, fun p q hp hq => ?_⟩
  rcases hκ with rfl | rfl
  · exact lt_gen (s := { s with heap := h' }) (Q := fun r s' => s' = _ ∧ r = _) hu (hv' p.1 hp) (hv' q.1 hq) ⟨rfl, rfl⟩
  · exact lt_one (s := { s with heap := h' }) (Q := fun r s' => s' = _ ∧ r = _) hu (hv' p.1 hp) (hv' q.1 hq) ⟨rfl, rfl⟩
end
theorem lexLt_eq : ∀ xs ys : List Int, HT.lexLt xs ys = ltTs xs ys
  | [], [] => by simp [HT.lexLt, ltTs]
  | [], _ :: _ => by simp [HT.lexLt, ltTs]
  | _ :: _, [] => by simp [HT.lexLt, ltTs]
  | x :: xs, y :: ys => by
    have := lexLt_eq xs ys
    unfold HT.lexLt ltTs
    by_cases c : x = y
    · subst c; simp [this]
    · simp [c]
section
variable {X : Cx}
def rSortE (K : PySem.W.Frag) : List V → Hp → VK → Prop := fun vs H Q => ∃ (l : Addr) (ks : List (Addr × List Int)), vs = [V.ref l] ∧ SqL K H l (ks.map fun p => V.ref p.1) ∧ (∀ p ∈ ks, SqT K H p.1 (p.2.map V.int)) ∧ (ks.all fun p => !p.2.isEmpty) = false ∧
  ∀ (L' : List (Addr × List Int)) (p : Addr), L'.Perm ks → (L'.map (·.2)).Pairwise (fun x y => ltTs y x = false) → H p = none → Q (.ref p) (upd H p (.lst (L'.map fun q => V.ref q.1)))
theorem tupI_of {pins : List (Addr × Obj)} {σ : L2.St} {H : Hp} {s : Shared} (I : Inv X pins σ H s) {t : Addr} {ns : List Int} (h : SqT X.K H t (ns.map V.int)) : TS.TupInts s.heap (.ref t) ns := tupI_raw I h
theorem cr_sortE (hu : X.A.units + 64 < cLine) : CallR X (.builtin "sorted") (rSortE X.K) := by
  intro pins s σ H vs us Q I r h
  obtain ⟨l, ks, rfl, hl, hk, hne, q⟩ := h
  obtain ⟨its, rv, pl, hz⟩ := I.list hl
  rw [Vals.ref1 r]
  have ei : its = ks.map fun p => Value.ref p.1 := refs_of_vals rv
  have hT : ∀ p ∈ ks, TS.TupInts s.heap (.ref p.1) p.2 := fun p hp => tupI_of I (hk p hp)
  have hv : ∀ v ∈ its, TS.TupInts s.heap v (TS.intsOf s.heap v) := fun v hv => by
    rw [ei] at hv
    obtain ⟨p, hp, rfl⟩ := List.mem_map.mp hv
    rw [(hT p hp).ints]
    exact hT p hp
  have hn : (its.all fun v => !(TS.intsOf s.heap v).isEmpty) = false := by
    rw [← hne, ei, List.all_map]
    have : ∀ L : List (Addr × List Int), (∀ p ∈ L, p ∈ ks) → L.all ((fun v => !(TS.intsOf s.heap v).isEmpty) ∘ fun p => Value.ref p.1) = L.all fun p => !p.2.isEmpty := by
      intro L
      induction L with
      | nil => intro _; rfl
      | cons p L ih =>
        intro h
        rw [List.all_cons, List.all_cons, ih fun r hr => h r (List.mem_cons_of_mem _ hr)]
        congr 1
        simp only [Function.comp_apply]
        rw [(hT p (h p List.mem_cons_self)).ints]
    exact this ks fun _ h => h
  refine sorted_ord (ltv := fun v u => HT.lexLt (TS.intsOf s.heap v) (TS.intsOf s.heap u)) (NtL.swo_lexL (TS.intsOf s.heap)) (by simpa using pl.isList) (by rw [← rv.length]; exact hz) (fun h2 h₁ a ga keep => ?_) fun out hs hb => ?_
  · refine tups_sortable (k := TS.intsOf s.heap) (by show X.A.units + 1 + 1 < _; omega) (fun v hm => (hv v hm).keeps fun b o e c => (keep b o e).2) hn fun o e => ?_
    rw [ga] at e
    cases e
    show Value.type "list" ≠ Value.type "tuple"
    decide
  · have hp := hb.perm
    have gen : ∀ (vs ws : List Value), vs.Perm ws → ∀ L : List (Addr × List Int), ws = L.map (fun q => Value.ref q.1) → ∃ L1 : List (Addr × List Int), vs = L1.map (fun q => Value.ref q.1) ∧ L1.Perm L := by
      intro vs ws hp
      induction hp with
      | nil => exact fun L h => ⟨L, h, .refl _⟩
      | cons x h ih =>
        intro L hL
        cases L with
        | nil => cases hL
        | cons q L =>
          rw [List.map_cons, List.cons.injEq] at hL
          obtain ⟨L1, e, p⟩ := ih L hL.2
          exact ⟨q :: L1, by rw [List.map_cons, ← e, hL.1], p.cons q⟩
      | swap x y l =>
        intro L hL
        match L, hL with
        | [], hL => cases hL
        | [_], hL => simp at hL
        | q :: r :: L, hL =>
          rw [List.map_cons, List.map_cons, List.cons.injEq, List.cons.injEq] at hL
          exact ⟨r :: q :: L, by rw [List.map_cons, List.map_cons, ← hL.1, ← hL.2.1, ← hL.2.2], .swap q r L⟩
      | trans h1 h2 ih1 ih2 =>
        intro L hL
        obtain ⟨L2, e2, p2⟩ := ih2 L hL
        obtain ⟨L1, e1, p1⟩ := ih1 L2 e2
        exact ⟨L1, e1, p1.trans p2⟩
    obtain ⟨L', eo, pm⟩ := gen _ _ hp ks ei
    obtain ⟨ep, he'⟩ := PyProof.Rows.sortedAll_at s.heap its out.toArray
    have hlen : (L'.map fun q => V.ref q.1).length ≤ sizeLine := by
      rw [List.length_map, pm.length_eq]
      rw [List.length_map] at hz
      exact hz
    have hn0 : H (s.heap.objs.size + 1) = none := I.hok.fresh (Nat.le_succ _)
    refine ⟨.ref _, upd H (s.heap.objs.size + 1) (.lst (L'.map fun q => V.ref q.1)), I.laid (t' := s.toks) (fun _ _ => PyProof.Rows.sortedAll_old) (Nat.le_succ _) ⟨hlen, out, ep, by rw [eo]; exact vals_of_refs L', he'⟩, rfl, q L' _ pm ?_ hn0⟩
    have hs' : out.Pairwise fun v u => HT.lexLt (TS.intsOf s.heap u) (TS.intsOf s.heap v) = false := hs
    rw [eo, List.pairwise_map] at hs'
    rw [List.pairwise_map]
    refine hs'.imp_of_mem fun {x y} hx hy h => ?_
    rw [(hT x (pm.mem_iff.mp hx)).ints, (hT y (pm.mem_iff.mp hy)).ints, lexLt_eq] at h
    exact h
end
/-! the operation -/
def leTs (a b : List Int) : Bool := !ltTs b a
theorem leTs_tr (a b c : List Int) (h1 : leTs a b = true) (h2 : leTs b c = true) : leTs a c = true := by
  unfold leTs at *
  simp only [Bool.not_eq_true', ← Bool.not_eq_true] at *
  intro h
  cases e : ltTs b a with
  | true => exact h1 e
  | false =>
    cases e2 : ltTs a b with
    | true => exact h2 (str_Ts.tr _ _ _ h e2)
    | false =>
      have := str_Ts.tot _ _ e e2
      rw [this] at h2
      exact h2 h
theorem leTs_tot (a b : List Int) : (leTs a b || leTs b a) = true := by
  unfold leTs
  cases e : ltTs b a with
  | false => rfl
  | true =>
    cases e2 : ltTs a b with
    | false => rfl
    | true => have := str_Ts.tr _ _ _ e e2; rw [str_Ts.irr] at this; cases this
theorem leTs_anti (a b : List Int) (h1 : leTs a b = true) (h2 : leTs b a = true) : a = b := str_Ts.tot _ _ (by simpa [leTs] using h2) (by simpa [leTs] using h1)
def sortT (ks : List (List Int)) : List (List Int) := ks.mergeSort leTs
theorem sortT_perm (ks : List (List Int)) : (sortT ks).Perm ks := List.mergeSort_perm _ _
theorem sortT_pw (ks : List (List Int)) : (sortT ks).Pairwise fun a b => leTs a b = true := List.pairwise_mergeSort (fun a b c => leTs_tr a b c) (fun a b => leTs_tot a b) ks
theorem perm_pw_eq {α : Type} {le : α → α → Bool} (anti : ∀ a b, le a b = true → le b a = true → a = b) : ∀ {xs ys : List α}, xs.Perm ys → xs.Pairwise (fun a b => le a b = true) → ys.Pairwise (fun a b => le a b = true) → xs = ys
  | [], ys, p, _, _ => by rw [List.nil_perm.mp p]
  | x :: xs, [], p, _, _ => by have := p.length_eq; simp at this
  | x :: xs, y :: ys, p, h1, h2 => by
    rw [List.pairwise_cons] at h1 h2
    have e : x = y := by
      rcases List.mem_cons.mp (p.mem_iff.mp List.mem_cons_self) with e | e
      · exact e
      · rcases List.mem_cons.mp (p.mem_iff.mpr List.mem_cons_self) with e' | e'
        · exact e'.symm
        · exact anti _ _ (h1.1 y e') (h2.1 x e)
    subst e
    rw [perm_pw_eq anti (List.Perm.cons_inv p) h1.2 h2.2]
theorem sortT_eq {ks ls : List (List Int)} (p : ls.Perm ks) (h : ls.Pairwise fun a b => leTs a b = true) : ls = sortT ks := perm_pw_eq leTs_anti (p.trans (sortT_perm ks).symm) h (sortT_pw ks)
def clSortE : List PV → Option Vl
  | [.lst xs] => (tupsOf xs).bind fun ks => if (ks.all fun k => !k.isEmpty) = true then none else some (.own ((sortT ks).map (eT PV.int)))
  | _ => none
def clSorted2 (ps : List PV) : Option Vl := match clSorted ps with
  | some r => some r
  | none => clSortE ps
theorem cok_sortE {R : RE} : CallOk R clSortE (rSortE R.K) := by
  intro e F H B ps xs r Q hB hp ho k
  unfold clSortE at ho
  split at ho
  · rename_i zs
    rw [Option.bind_eq_some_iff] at ho
    obtain ⟨ks, hi, ho⟩ := ho
    split at ho
    · cases ho
    · rename_i c
      cases ho
      obtain ⟨x, rfl, q⟩ := hp.one
      obtain ⟨a, vs, rfl, h2, r1⟩ := q.lst hB.sub
      rw [tupsOf_eq hi] at r1
      obtain ⟨cs, rfl, rfl, hc⟩ := rpl_tups hB.sub r1
      refine ⟨a, cs, rfl, SqL.of h2, fun p hp => (hc p hp).1, ?_, fun L' p pm pw hn => ?_⟩
      · rw [List.all_map, Bool.not_eq_true] at c
        exact c
      · have hr : RpL R F (L'.map fun q => eT PV.int q.2) (L'.map fun q => V.ref q.1) := by
          have : ∀ L' : List (Addr × List Int), (∀ q ∈ L', q ∈ cs) → RpL R F (L'.map fun q => eT PV.int q.2) (L'.map fun q => V.ref q.1) := by
            intro L'
            induction L' with
            | nil => intro _; exact .nil
            | cons q L' ih => intro h; exact .cons (hc q (h q List.mem_cons_self)).2 (ih fun r hr => h r (List.mem_cons_of_mem _ hr))
          exact this L' fun q hq => pm.mem_iff.mp hq
        have e1 : L'.map (·.2) = sortT (cs.map (·.2)) := sortT_eq (pm.map _) (pw.imp fun h => by simp [leTs, h])
        have e2 : (L'.map fun q => eT PV.int q.2) = (sortT (cs.map (·.2))).map (eT PV.int) := by rw [← e1, List.map_map]; rfl
        rw [e2] at hr
        exact k _ _ _ (hB.new_lst hn hr)
  · cases ho
theorem cok_sorted2 {R : RE} : CallOk R clSorted2 (fun xs H Q => rSortedD R.K xs H Q ∨ rSortE R.K xs H Q) := cok_sorted.or cok_sortE
/-! the typed layer -/
theorem clSorted2_q {α : Type} {e : α → PV} {xs zs : List α} (h : sortO e xs = some zs) : clSorted2 [eL e xs] = some (.own (zs.map e)) := by
  unfold clSorted2
  rw [clSorted_q h]
theorem leP_Ts (a b : List Int) : leP (eT PV.int a) (eT PV.int b) = leTs a b := by
  have := leP_q (ltq_T ltq_int) (a := a) (b := b)
  rw [Bool.eq_iff_iff, this, ← ltTs_iff]
  simp [leTs]
theorem clSorted2_T {ks : List (List Int)} : clSorted2 [eL (eT PV.int) ks] = some (.own ((sortT ks).map (eT PV.int))) := by
  unfold clSorted2
  by_cases c : sortB (ks.map (eT PV.int)) = true
  · have : sortO (eT PV.int) ks = some (sortT ks) := by
      unfold sortO sortT
      rw [if_pos c, show (fun a b => leP (eT PV.int a) (eT PV.int b)) = leTs from funext fun a => funext fun b => leP_Ts a b]
    rw [clSorted_q this]
  · have e1 : clSorted [eL (eT PV.int) ks] = none := by
      show (if sortB (ks.map (eT PV.int)) = true then _ else none) = none
      rw [if_neg c]
    rw [e1]
    show (tupsOf (ks.map (eT PV.int))).bind _ = _
    rw [tupsOf_map, Option.bind_some, if_neg]
    intro h
    refine c ?_
    unfold sortB
    rw [Bool.and_eq_true, Bool.and_eq_true]
    refine ⟨⟨datNs_map (eqv_T eqv_int) (by decide) ks, ?_⟩, ?_⟩
    · simp only [List.all_map, List.all_eq_true, Function.comp_apply]
      exact fun a _ b _ => (ltq_T ltq_int).al a b
    · rw [Bool.or_eq_true]
      left
      rw [List.all_map, List.all_eq_true]
      intro k hk
      have := List.all_eq_true.mp h k hk
      cases k with
      | nil => cases this
      | cons _ _ => rfl
end PL
set_option Elab.async false
set_option linter.all false
set_option maxRecDepth 100000
set_option maxHeartbeats 4000000
namespace Wk25
open PySem PySem.Spec PyProof.Rows L2 PL
/-! the functions that the defs tell -/
def F__law_hand_l1 : PF := eLc (iSeq (eSl (ePk 0) oNone (oSome (eC (.int 63))))) [2] (gNm 2) tTrue (eNary clAbs (aCons (eNary clInt (aCons (ePk 2) aNil)) aNil))
/-- _law_hand: 0 script, 1 cells, 2 cell -/
def F__law_hand : FP := fnF 3 [false] (sSeq (sSet 1 F__law_hand_l1) (sRet (eLst (aCons (eVar 1) (aCons (eC (.int 0)) (aCons (eC (.int 0)) (aCons (eBin opAdd (eC (.int 1)) (eNary clLen (aCons (ePk 1) aNil))) (aCons (eC (.int 0)) aNil))))))))
/-- is_row: 0 thing -/
def F_is_row : FP := fnF 1 [false] (sRet (eNary clIsi (aCons (ePk 0) (aCons (eTup (aCons (eC (.ty .list)) (aCons (eC (.ty .tuple)) aNil))) aNil))))
/-- is_integer: 0 thing -/
def F_is_integer : FP := fnF 1 [false] (sRet (eAndF (eNary clIsi (aCons (ePk 0) (aCons (eC (.ty .int)) aNil))) (eNotF (eNary clIsi (aCons (ePk 0) (aCons (eC (.ty .bool)) aNil))))))
def F_check_makers_l1 : PF := eLc (iSeq (eVar 1)) [2] (gNm 2) tTrue (eCall F_is_integer (aCons (eVar 2) aNil))
def F_check_makers_b1 : PSF := sSeq (sIf (tOrF (tNotF (tOf (eCall F_is_row (aCons (eVar 1) aNil)))) (tOrF (tNotF (tOf (eChain opLe opLe (eC (.int 1)) (eNary clLen (aCons (ePk 1) aNil)) (eC (.int 8))))) (tOf (eBin opNe (eNary clLen (aCons (ePk 1) aNil)) (eNary clLen (aCons (eBin opIx (ePk 0) (eC (.int 0))) aNil)))))) sNever sNil) (sIf (tNotF (tOf (eNary clAll (aCons F_check_makers_l1 aNil)))) sNever sNil)
def F_check_makers_f1 : PSF := sFor (iSeq (eVar 0)) (gNm 1) F_check_makers_b1
/-- check_makers: 0 rows, 1 row, 2 one -/
def F_check_makers : FP := fnF 3 [false] (sSeq (sIf (tOrF (tNotF (tOf (eCall F_is_row (aCons (eVar 0) aNil)))) (tNotF (tOf (eChain opLe opLe (eC (.int 1)) (eNary clLen (aCons (ePk 0) aNil)) (eC (.int 8)))))) sNever sNil) F_check_makers_f1)
def F_are_integers_l1 : PF := eLc (iSeq (eVar 0)) [2] (gNm 2) tTrue (eCall F_is_integer (aCons (eVar 2) aNil))
/-- are_integers: 0 thing, 1 many, 2 one -/
def F_are_integers : FP := fnF 3 [false, false] (sRet (eAndF (eCall F_is_row (aCons (eVar 0) aNil)) (eAndF (eBin opEq (eNary clLen (aCons (ePk 0) aNil)) (ePk 1)) (eNary clAll (aCons F_are_integers_l1 aNil)))))
/-- check_like: 0 rows, 1 row -/
def F_check_like : FP := fnF 2 [false, false] (sSeq (sExpr (eCall F_check_makers (aCons (eVar 0) aNil))) (sIf (tNotF (tOf (eCall F_are_integers (aCons (eVar 1) (aCons (eNary clLen (aCons (eBin opIx (ePk 0) (eC (.int 0))) aNil)) aNil))))) sNever sNil))
def F_greatest_shifts_l1 : PF := eLc (iZip2 (aCons (eVar 2) (aCons (eVar 1) aNil))) [3, 4] (gTp (gsCons (gNm 3) (gsCons (gNm 4) gsNil))) tTrue (eBin opSub (ePk 4) (ePk 3))
def F_greatest_shifts_l2 : PF := eLc (iSeq (eVar 0)) [2] (gNm 2) tTrue (eNary clMin2 (aCons F_greatest_shifts_l1 aNil))
/-- greatest_shifts: 0 rows, 1 row, 2 maker, 3 one, 4 goal -/
def F_greatest_shifts : FP := fnF 5 [false, false] (sSeq (sExpr (eCall F_check_like (aCons (eVar 0) (aCons (eVar 1) aNil)))) (sRet (eNary clTuple (aCons F_greatest_shifts_l2 aNil))))
def F_sectors_l1 : PF := eLc (iEnum (aCons (eVar 0) aNil)) [6, 7] (gTp (gsCons (gNm 6) (gsCons (gNm 7) gsNil))) (tOf (eBin opEq (eBin opAdd (eBin opIx (ePk 7) (ePk 4)) (eBin opIx (ePk 2) (ePk 6))) (ePk 5))) (eVar 6)
def F_sectors_b1 : PSF := sExpr (eAppend 3 (eNary clTuple (aCons F_sectors_l1 aNil)))
def F_sectors_f1 : PSF := sFor (iEnum (aCons (eVar 1) aNil)) (gTp (gsCons (gNm 4) (gsCons (gNm 5) gsNil))) F_sectors_b1
/-- sectors: 0 rows, 1 row, 2 shifts, 3 found, 4 at, 5 goal, 6 place, 7 maker -/
def F_sectors : FP := fnF 8 [false, false] (sSeq (sPar 2 3 (aCons (eCall F_greatest_shifts (aCons (eVar 0) (aCons (eVar 1) aNil))) (aCons (eLst aNil) aNil))) (sSeq F_sectors_f1 (sRet (eMv 3))))
def F_far_l1 : PF := eLc (iZip2 (aCons (eVar 0) (aCons (eVar 1) aNil))) [3, 4] (gTp (gsCons (gNm 3) (gsCons (gNm 4) gsNil))) tTrue (eBin opSub (ePk 3) (ePk 4))
/-- far: 0 one, 1 other, 2 gaps, 3 mine, 4 its -/
def F_far : FP := fnF 5 [false, false] (sSeq (sIf (tOrF (tNotF (tOf (eCall F_is_row (aCons (eVar 0) aNil)))) (tOrF (tNotF (tOf (eCall F_are_integers (aCons (eVar 0) (aCons (eNary clLen (aCons (ePk 0) aNil)) aNil))))) (tOrF (tOf (eBin opEq (ePk 0) (eTup aNil))) (tNotF (tOf (eCall F_are_integers (aCons (eVar 1) (aCons (eNary clLen (aCons (ePk 0) aNil)) aNil)))))))) sNever sNil) (sSeq (sSet 2 F_far_l1) (sRet (eBin opSub (eNary clMax2 (aCons (ePk 2) aNil)) (eNary clMin2 (aCons (ePk 2) aNil))))))
def F_step_row_l1 : PF := eLc (iZip2 (aCons (eVar 0) (aCons (eVar 1) aNil))) [3, 4] (gTp (gsCons (gNm 3) (gsCons (gNm 4) gsNil))) tTrue (eNary clMax2 (aCons (ePk 3) (aCons (eBin opAdd (ePk 4) (ePk 2)) aNil)))
/-- step_row: 0 one, 1 other, 2 number, 3 mine, 4 its -/
def F_step_row : FP := fnF 5 [false, false, false] (sSeq (sIf (tOrF (tNotF (tOf (eCall F_is_row (aCons (eVar 0) aNil)))) (tOrF (tNotF (tOf (eCall F_are_integers (aCons (eVar 0) (aCons (eNary clLen (aCons (ePk 0) aNil)) aNil))))) (tNotF (tOf (eCall F_are_integers (aCons (eVar 1) (aCons (eNary clLen (aCons (ePk 0) aNil)) aNil))))))) sNever sNil) (sSeq (sIf (tNotF (tOf (eCall F_is_integer (aCons (eVar 2) aNil)))) sNever sNil) (sRet (eNary clTuple (aCons F_step_row_l1 aNil)))))
def F_plain_row_l1 : PF := eLc (iSeq (eVar 0)) [1] (gNm 1) tTrue (eBin opSub (ePk 1) (eBin opIx (ePk 0) (eC (.int 0))))
/-- plain_row: 0 row, 1 one -/
def F_plain_row : FP := fnF 2 [false] (sRet (eNary clTuple (aCons F_plain_row_l1 aNil)))
def F_kinks_l1 : PF := eLc (iZip2 (aCons (eVar 0) (aCons (eVar 1) aNil))) [3, 4] (gTp (gsCons (gNm 3) (gsCons (gNm 4) gsNil))) tTrue (eBin opSub (ePk 3) (ePk 4))
def F_kinks_l2 : PF := eLc (iSeq (eVar 2)) [5] (gNm 5) tTrue (eCall F_plain_row (aCons (eCall F_step_row (aCons (eVar 0) (aCons (eVar 1) (aCons (eVar 5) aNil)))) aNil))
/-- kinks: 0 one, 1 other, 2 gaps, 3 mine, 4 its, 5 gap -/
def F_kinks : FP := fnF 6 [false, false] (sSeq (sIf (tOrF (tNotF (tOf (eCall F_is_row (aCons (eVar 0) aNil)))) (tOrF (tOf (eBin opEq (eNary clLen (aCons (ePk 0) aNil)) (eC (.int 0)))) (tOrF (tNotF (tOf (eCall F_are_integers (aCons (eVar 0) (aCons (eNary clLen (aCons (ePk 0) aNil)) aNil))))) (tNotF (tOf (eCall F_are_integers (aCons (eVar 1) (aCons (eNary clLen (aCons (ePk 0) aNil)) aNil)))))))) sNever sNil) (sSeq (sSet 2 (eNary clSS (aCons F_kinks_l1 aNil))) (sRet F_kinks_l2)))
/-- is_within: 0 thing, 1 low, 2 high -/
def F_is_within : FP := fnF 3 [false, false, false] (sRet (eAndF (eCall F_is_integer (aCons (eVar 0) aNil)) (eChain opLe opLe (ePk 1) (ePk 0) (ePk 2))))
def F_is_lot_l1 : PF := eLc (iSeq (eVar 0)) [2] (gNm 2) tTrue (eCall F_is_within (aCons (eVar 2) (aCons (eC (.int 0)) (aCons (eBin opSub (ePk 1) (eC (.int 1))) aNil))))
def F_is_lot_l2 : PF := eLc (iZip2 (aCons (eVar 0) (aCons (eSl (ePk 0) (oSome (eC (.int 1))) oNone) aNil))) [2, 3] (gTp (gsCons (gNm 2) (gsCons (gNm 3) gsNil))) tTrue (eBin opLt (ePk 2) (ePk 3))
/-- is_lot: 0 thing, 1 many, 2 one, 3 other -/
def F_is_lot : FP := fnF 4 [false, false] (sSeq (sIf (tOrF (tNotF (tOf (eNary clIsi (aCons (ePk 0) (aCons (eC (.ty .tuple)) aNil))))) (tNotF (tOf (eNary clAll (aCons F_is_lot_l1 aNil))))) (sRet (eC (.bl false))) sNil) (sRet (eNary clAll (aCons F_is_lot_l2 aNil))))
/-- check_lot: 0 thing, 1 many -/
def F_check_lot : FP := fnF 2 [false, false] (sIf (tNotF (tOf (eCall F_is_lot (aCons (eVar 0) (aCons (eVar 1) aNil))))) sNever sNil)
def F_made_l1 : PF := eLc (iSeq (eVar 2)) [4, 5] (gTp (gsCons (gNm 4) (gsCons (gNm 5) gsNil))) tTrue (eBin opAdd (eBin opIx (ePk 4) (ePk 3)) (ePk 5))
def F_made_l2 : PF := eLc (iRange1 (eNary clLen (aCons (eBin opIx (ePk 0) (eC (.int 0))) aNil))) [3] (gNm 3) tTrue (eNary clMax2 (aCons F_made_l1 aNil))
/-- made: 0 rows, 1 shifts, 2 pairs, 3 at, 4 maker, 5 number -/
def F_made : FP := fnF 6 [false, false] (sSeq (sExpr (eCall F_check_makers (aCons (eVar 0) aNil))) (sSeq (sIf (tNotF (tOf (eCall F_are_integers (aCons (eVar 1) (aCons (eNary clLen (aCons (ePk 0) aNil)) aNil))))) sNever sNil) (sSeq (sSet 2 (eListZ (aCons (eVar 0) (aCons (eVar 1) aNil)))) (sRet (eNary clTuple (aCons F_made_l2 aNil))))))
/-- is_in_span: 0 rows, 1 row -/
def F_is_in_span : FP := fnF 2 [false, false] (sRet (eBin opEq (eCall F_made (aCons (eVar 0) (aCons (eCall F_greatest_shifts (aCons (eVar 0) (aCons (eVar 1) aNil))) aNil))) (eNary clTuple (aCons (ePk 1) aNil))))
def F_is_inner_l1 : PF := eLc (iSeq (eVar 2)) [3] (gNm 3) tTrue (eBin opIx (ePk 0) (ePk 3))
/-- is_inner: 0 rows, 1 row, 2 lot, 3 place -/
def F_is_inner : FP := fnF 4 [false, false, false] (sSeq (sExpr (eCall F_check_like (aCons (eVar 0) (aCons (eVar 1) aNil)))) (sSeq (sExpr (eCall F_check_lot (aCons (eVar 2) (aCons (eNary clLen (aCons (ePk 0) aNil)) aNil)))) (sRet (eAndF (eBin opNe (ePk 2) (eTup aNil)) (eCall F_is_in_span (aCons F_is_inner_l1 (aCons (eVar 1) aNil)))))))
/-- _law_draw: 0 hand, 1 bound, 2 cell, 3 digit, 4 number -/
def F__law_draw : FP := fnF 5 [false, false] (sSeq (sIf (tAndF (tOf (eBin opEq (eBin opIx (ePk 0) (eC (.int 2))) (eC (.int 0)))) (tOf (eBin opLt (eBin opIx (ePk 0) (eC (.int 1))) (eNary clLen (aCons (eBin opIx (ePk 0) (eC (.int 0))) aNil))))) (sSeq (sSet 2 (eBin opIx (eBin opIx (ePk 0) (eC (.int 0))) (eBin opIx (ePk 0) (eC (.int 1))))) (sSeq (sSetIx 0 (eBin opAdd (eBin opIx (ePk 0) (eC (.int 1))) (eC (.int 1))) (eC (.int 1))) (sSeq (sSetIx 0 (eBin opMod (eNary clInt (aCons (eBin opAdd (eBin opAdd (eBin opMul (eBin opIx (ePk 0) (eC (.int 3))) (eC (.int 69621))) (ePk 2)) (eC (.int 11))) aNil)) (eC (.int 2147483629))) (eC (.int 3))) (sIf (tOf (eBin opGe (ePk 2) (eBin opPow (eC (.int 10)) (eC (.int 18))))) (sSetIx 0 (eVar 2) (eC (.int 2))) sNil)))) sNil) (sSeq (sIf (tOf (eBin opGt (eBin opIx (ePk 0) (eC (.int 2))) (eC (.int 0)))) (sSeq (sSet 3 (eBin opMod (eNary clInt (aCons (eBin opIx (ePk 0) (eC (.int 2))) aNil)) (ePk 1))) (sSeq (sSetIx 0 (eBin opFdiv (eBin opIx (ePk 0) (eC (.int 2))) (ePk 1)) (eC (.int 2))) (sRet (eVar 3)))) sNil) (sSeq (sSetIx 0 (eBin opAdd (eBin opIx (ePk 0) (eC (.int 4))) (eC (.int 1))) (eC (.int 4))) (sSeq (sSet 4 (eBin opMod (eNary clInt (aCons (eBin opMul (eNary clInt (aCons (eBin opAdd (eBin opIx (ePk 0) (eC (.int 3))) (eBin opMul (eC (.int 7919)) (eBin opIx (ePk 0) (eC (.int 4))))) aNil)) (eC (.int 48271))) aNil)) (eC (.int 2147483647)))) (sSeq (sSet 4 (eBin opMod (eNary clInt (aCons (eBin opMul (ePk 4) (eBin opAdd (eBin opFdiv (ePk 4) (eC (.int 1009))) (eC (.int 69621)))) aNil)) (eC (.int 2147483647)))) (sSeq (sSet 4 (eBin opMod (eNary clInt (aCons (eBin opMul (ePk 4) (eBin opAdd (eBin opFdiv (ePk 4) (eC (.int 2003))) (eC (.int 40692)))) aNil)) (eC (.int 2147483399)))) (sRet (eBin opMod (eNary clInt (aCons (eBin opFdiv (ePk 4) (eC (.int 16))) aNil)) (ePk 1)))))))))
def F__law_makers_l1 : PF := eLc (iRange1 (ePk 1)) [3] (gNm 3) tTrue (eBin opSub (eCall F__law_draw (aCons (eBor 0) (aCons (eC (.int 9)) aNil))) (eC (.int 3)))
def F__law_makers_l2 : PF := eLc (iRange1 (eBin opAdd (eC (.int 1)) (eCall F__law_draw (aCons (eBor 0) (aCons (eC (.int 3)) aNil))))) [2] (gNm 2) tTrue (eNary clTuple (aCons F__law_makers_l1 aNil))
/-- _law_makers: 0 hand, 1 wide, 2 a, 3 b -/
def F__law_makers : FP := fnF 4 [false, false] (sRet (eNary clTuple (aCons F__law_makers_l2 aNil)))
def F__law_made_l1 : PF := eLc (iZip2 (aCons (eVar 0) (aCons (eVar 1) aNil))) [4, 5] (gTp (gsCons (gNm 4) (gsCons (gNm 5) gsNil))) tTrue (eBin opAdd (eBin opIx (ePk 4) (ePk 3)) (ePk 5))
def F__law_made_b1 : PSF := sExpr (eAppend 2 (eNary clMax2 (aCons F__law_made_l1 aNil)))
def F__law_made_f1 : PSF := sFor (iRange1 (eNary clLen (aCons (eBin opIx (ePk 0) (eC (.int 0))) aNil))) (gNm 3) F__law_made_b1
/-- _law_made: 0 makers, 1 shifts, 2 found, 3 at, 4 maker, 5 shift -/
def F__law_made : FP := fnF 6 [false, false] (sSeq (sSet 2 (eLst aNil)) (sSeq F__law_made_f1 (sRet (eNary clTuple (aCons (ePk 2) aNil)))))
def F__law_shifts_l1 : PF := eLc (iZip2 (aCons (eVar 2) (aCons (eVar 1) aNil))) [3, 4] (gTp (gsCons (gNm 3) (gsCons (gNm 4) gsNil))) tTrue (eBin opSub (ePk 4) (ePk 3))
def F__law_shifts_l2 : PF := eLc (iSeq (eVar 0)) [2] (gNm 2) tTrue (eNary clMin2 (aCons F__law_shifts_l1 aNil))
/-- _law_shifts: 0 makers, 1 row, 2 maker, 3 a, 4 b -/
def F__law_shifts : FP := fnF 5 [false, false] (sRet (eNary clTuple (aCons F__law_shifts_l2 aNil)))
/-- _law_near: 0 makers, 1 row -/
def F__law_near : FP := fnF 2 [false, false] (sRet (eCall F__law_made (aCons (eVar 0) (aCons (eCall F__law_shifts (aCons (eVar 0) (aCons (eVar 1) aNil))) aNil))))
def F_cut_by_l1 : PF := eLc (iEnum (aCons (eVar 1) aNil)) [6, 7] (gTp (gsCons (gNm 6) (gsCons (gNm 7) gsNil))) (tOf (eBin opEq (eBin opAdd (eBin opIx (ePk 4) (ePk 6)) (ePk 5)) (ePk 7))) (eVar 6)
def F_cut_by_b1 : PSF := sExpr (eAppend 3 (eNary clTuple (aCons F_cut_by_l1 aNil)))
def F_cut_by_f1 : PSF := sFor (iZip2 (aCons (eVar 0) (aCons (eVar 2) aNil))) (gTp (gsCons (gNm 4) (gsCons (gNm 5) gsNil))) F_cut_by_b1
/-- cut_by: 0 rows, 1 row, 2 shifts, 3 found, 4 maker, 5 number, 6 at, 7 goal -/
def F_cut_by : FP := fnF 8 [false, false] (sSeq (sPar 2 3 (aCons (eCall F_greatest_shifts (aCons (eVar 0) (aCons (eVar 1) aNil))) (aCons (eLst aNil) aNil))) (sSeq F_cut_by_f1 (sRet (eMv 3))))
/-- _law_any: 0 hand, 1 things -/
def F__law_any : FP := fnF 2 [false, false] (sRet (eBin opIx (ePk 1) (eCall F__law_draw (aCons (eBor 0) (aCons (eNary clLen (aCons (ePk 1) aNil)) aNil)))))
def F__law_lots_l1 : PF := eLc (iSeq (eVar 1)) [3] (gNm 3) tTrue (eBin opAdd (ePk 3) (eTup (aCons (eVar 2) aNil)))
def F__law_lots_b1 : PSF := sSet 1 (eBin opAdd (ePk 1) F__law_lots_l1)
def F__law_lots_f1 : PSF := sFor (iRange1 (ePk 0)) (gNm 2) F__law_lots_b1
/-- _law_lots: 0 many, 1 found, 2 at, 3 lot -/
def F__law_lots : FP := fnF 4 [false] (sSeq (sSet 1 (eLst (aCons (eTup aNil) aNil))) (sSeq F__law_lots_f1 (sRet (eNary clSorted2 (aCons (ePk 1) aNil)))))
def F_law_l1 : PF := eLc (iRange1 (ePk 4)) [9] (gNm 9) tTrue (eBin opSub (eCall F__law_draw (aCons (eBor 1) (aCons (eC (.int 11)) aNil))) (eC (.int 4)))
def F_law_l2 : PF := eLc (iEnum (aCons (eVar 5) aNil)) [18, 19] (gTp (gsCons (gNm 18) (gsCons (gNm 19) gsNil))) (tOf (eBin opEq (eBin opAdd (eBin opIx (ePk 19) (ePk 9)) (eBin opIx (ePk 7) (ePk 18))) (eBin opIx (ePk 6) (ePk 9)))) (eVar 18)
def F_law_b1 : PSF := sExpr (eAppend 8 (eNary clTuple (aCons F_law_l2 aNil)))
def F_law_f1 : PSF := sFor (iRange1 (ePk 4)) (gNm 9) F_law_b1
def F_law_l3 : PF := eLc (iRange1 (ePk 4)) [9] (gNm 9) (tOf (eBin opIn (ePk 18) (eBin opIx (ePk 8) (ePk 9)))) (eVar 9)
def F_law_l4 : PF := eLc (iRange1 (eNary clLen (aCons (ePk 5) aNil))) [18] (gNm 18) tTrue (eNary clTuple (aCons F_law_l3 aNil))
def F_law_l5 : PF := eLc (iSeq (eVar 10)) [11] (gNm 11) tTrue (eBin opNe (ePk 11) (eTup aNil))
def F_law_l6 : PF := eLc (iSeq (eVar 8)) [11] (gNm 11) tTrue (eBin opNe (ePk 11) (eTup aNil))
def F_law_l7 : PF := eLc (iSeq (eCall F__law_lots (aCons (eNary clLen (aCons (ePk 5) aNil)) aNil))) [11] (gNm 11) (tOf (eBin opNe (ePk 11) (eTup aNil))) (eVar 11)
def F_law_l8 : PF := eLc (iSeq (eVar 11)) [18] (gNm 18) tTrue (eBin opIx (ePk 5) (ePk 18))
def F_law_l9 : PF := eLc (iRange1 (ePk 4)) [9] (gNm 9) tTrue (eBin opSub (eCall F__law_draw (aCons (eBor 1) (aCons (eC (.int 11)) aNil))) (eC (.int 4)))
def F_law_l10 : PF := eLc (iZip2 (aCons (eVar 13) (aCons (eVar 14) aNil))) [18, 20] (gTp (gsCons (gNm 18) (gsCons (gNm 20) gsNil))) tTrue (eBin opSub (ePk 18) (ePk 20))
def F_law_l11 : PF := eLc (iZip2 (aCons (eVar 13) (aCons (eVar 14) aNil))) [18, 20] (gTp (gsCons (gNm 18) (gsCons (gNm 20) gsNil))) tTrue (eNary clMax2 (aCons (ePk 18) (aCons (eBin opAdd (ePk 20) (ePk 16)) aNil)))
def F_law_l12 : PF := eLc (iZip2 (aCons (eVar 13) (aCons (eVar 14) aNil))) [18, 20] (gTp (gsCons (gNm 18) (gsCons (gNm 20) gsNil))) tTrue (eNary clMax2 (aCons (ePk 18) (aCons (eBin opAdd (ePk 20) (ePk 16)) aNil)))
def F_law_b2 : PSF := sExpr (eAppend 17 (eCall F_plain_row (aCons (eNary clTuple (aCons F_law_l12 aNil)) aNil)))
def F_law_f2 : PSF := sFor (iSeq (eNary clSS (aCons (ePk 15) aNil))) (gNm 16) F_law_b2
def F_law_l13 : PF := eLc (iSeq (eVar 17)) [21] (gNm 21) tTrue (eCall F_is_in_span (aCons (eLst (aCons (eVar 13) (aCons (eVar 14) aNil))) (aCons (eVar 21) aNil)))
def F_law_b3 : PSF := sSeq (sSet 4 (eBin opAdd (eC (.int 1)) (eCall F__law_draw (aCons (eBor 1) (aCons (eC (.int 4)) aNil))))) (sSeq (sSet 5 (eCall F__law_makers (aCons (eBor 1) (aCons (eVar 4) aNil)))) (sSeq (sSet 6 (eNary clTuple (aCons F_law_l1 aNil))) (sSeq (sSet 6 (eIf (tOf (eBin opEq (eCall F__law_draw (aCons (eBor 1) (aCons (eC (.int 2)) aNil))) (eC (.int 0)))) (eCall F__law_near (aCons (eVar 5) (aCons (eVar 6) aNil))) (eVar 6))) (sSeq (sSet 7 (eCall F__law_shifts (aCons (eVar 5) (aCons (eVar 6) aNil)))) (sSeq (sSet 8 (eLst aNil)) (sSeq F_law_f1 (sSeq (sIf (tOf (eBin opNe (eNary clList (aCons (eCall F_sectors (aCons (eVar 5) (aCons (eVar 6) aNil))) aNil)) (ePk 8))) (sRet (eC (.bl false))) sNil) (sSeq (sSet 10 F_law_l4) (sSeq (sIf (tOrF (tOf (eBin opNe (eNary clList (aCons (eCall F_cut_by (aCons (eVar 5) (aCons (eVar 6) aNil))) aNil)) (ePk 10))) (tNotF (tOf (eNary clAll (aCons F_law_l5 aNil))))) (sRet (eC (.bl false))) sNil) (sSeq (sIf (tOf (eBin opNe (eCall F_is_in_span (aCons (eVar 5) (aCons (eVar 6) aNil))) (eNary clAll (aCons F_law_l6 aNil)))) (sRet (eC (.bl false))) sNil) (sSeq (sSet 11 (eCall F__law_any (aCons (eBor 1) (aCons F_law_l7 aNil)))) (sSeq (sSet 12 F_law_l8) (sSeq (sIf (tOf (eBin opNe (eNary clRepr (aCons (eCall F_is_inner (aCons (eVar 5) (aCons (eVar 6) (aCons (eVar 11) aNil)))) aNil)) (eNary clRepr (aCons (eBin opEq (eCall F__law_near (aCons (eVar 12) (aCons (eVar 6) aNil))) (ePk 6)) aNil)))) (sRet (eC (.bl false))) sNil) (sSeq (sPar 13 14 (aCons (eCall F__law_any (aCons (eBor 1) (aCons (eVar 5) aNil))) (aCons (eNary clTuple (aCons F_law_l9 aNil)) aNil))) (sSeq (sSet 15 F_law_l10) (sSeq (sIf (tOrF (tOf (eBin opNe (eCall F_far (aCons (eVar 13) (aCons (eVar 14) aNil))) (eBin opSub (eNary clMax2 (aCons (ePk 15) aNil)) (eNary clMin2 (aCons (ePk 15) aNil))))) (tOf (eBin opNe (eCall F_far (aCons (eVar 14) (aCons (eVar 13) aNil))) (eCall F_far (aCons (eVar 13) (aCons (eVar 14) aNil)))))) (sRet (eC (.bl false))) sNil) (sSeq (sSet 16 (eBin opSub (eCall F__law_draw (aCons (eBor 1) (aCons (eC (.int 15)) aNil))) (eC (.int 7)))) (sSeq (sIf (tOf (eBin opNe (eCall F_step_row (aCons (eVar 13) (aCons (eVar 14) (aCons (eVar 16) aNil)))) (eNary clTuple (aCons F_law_l11 aNil)))) (sRet (eC (.bl false))) sNil) (sSeq (sSet 17 (eLst aNil)) (sSeq F_law_f2 (sSeq (sIf (tOf (eBin opNe (eNary clSorted2 (aCons (eCall F_kinks (aCons (eVar 13) (aCons (eVar 14) aNil))) aNil)) (eNary clSorted2 (aCons (ePk 17) aNil)))) (sRet (eC (.bl false))) sNil) (sSeq (sIf (tNotF (tOf (eNary clAll (aCons F_law_l13 aNil)))) (sRet (eC (.bl false))) sNil) (sIf (tOrF (tOf (eBin opNe (eBin opIx (ePk 17) (eC (.int 0))) (eCall F_plain_row (aCons (eVar 13) aNil)))) (tOf (eBin opNe (eBin opIx (ePk 17) (eNeg (eC (.int 1)))) (eCall F_plain_row (aCons (eVar 14) aNil))))) (sRet (eC (.bl false))) sNil)))))))))))))))))))))))
def F_law_f3 : PSF := sFor (iRange1 (eC (.int 5))) (gNm 3) F_law_b3
/-- law: 0 script, 1 hand, 2 known, 3 lap, 4 wide, 5 makers, 6 row, 7 shifts, 8 due, 9 at, 10 lots, 11 lot, 12 some, 13 one, 14 other, 15 less, 16 number, 17 rows, 18 a, 19 maker, 20 b, 21 row_of -/
def F_law : FP := fnF 22 [false] (sSeq (sSet 1 (eCall F__law_hand (aCons (eVar 0) aNil))) (sSeq (sSet 2 (eTup (aCons (eTup (aCons (eC (.int 0)) (aCons (eC (.int 2)) aNil))) (aCons (eTup (aCons (eC (.int 1)) (aCons (eC (.int 0)) aNil))) aNil)))) (sSeq (sIf (tOrF (tOf (eBin opNe (eNary clList (aCons (eCall F_sectors (aCons (eVar 2) (aCons (eTup (aCons (eC (.int 1)) (aCons (eC (.int 1)) aNil))) aNil))) aNil)) (eLst (aCons (eTup (aCons (eC (.int 1)) aNil)) (aCons (eTup (aCons (eC (.int 0)) aNil)) aNil))))) (tOf (eBin opNe (eCall F_far (aCons (eTup (aCons (eC (.int 0)) (aCons (eC (.int 5)) aNil))) (aCons (eTup (aCons (eC (.int 3)) (aCons (eC (.int 1)) aNil))) aNil))) (eC (.int 7))))) (sRet (eC (.bl false))) sNil) (sSeq (sIf (tOf (eBin opNe (eCall F_step_row (aCons (eTup (aCons (eC (.int 0)) (aCons (eC (.int 5)) aNil))) (aCons (eTup (aCons (eC (.int 3)) (aCons (eC (.int 1)) aNil))) (aCons (eC (.int 1)) aNil)))) (eTup (aCons (eC (.int 4)) (aCons (eC (.int 5)) aNil))))) (sRet (eC (.bl false))) sNil) (sSeq (sIf (tOrF (tOf (eBin opNe (eNary clSorted2 (aCons (eCall F_kinks (aCons (eTup (aCons (eC (.int 0)) (aCons (eC (.int 5)) aNil))) (aCons (eTup (aCons (eC (.int 3)) (aCons (eC (.int 1)) aNil))) aNil))) aNil)) (eLst (aCons (eTup (aCons (eC (.int 0)) (aCons (eNeg (eC (.int 2))) aNil))) (aCons (eTup (aCons (eC (.int 0)) (aCons (eC (.int 5)) aNil))) aNil))))) (tOf (eBin opIsN2 (eCall F_is_inner (aCons (eVar 2) (aCons (eTup (aCons (eC (.int 1)) (aCons (eC (.int 1)) aNil))) (aCons (eTup (aCons (eC (.int 0)) aNil)) aNil)))) (eC (.bl false))))) (sRet (eC (.bl false))) sNil) (sSeq F_law_f3 (sRet (eC (.bl true)))))))))
end Wk25
set_option Elab.async false
set_option linter.all false
set_option maxRecDepth 100000
set_option maxHeartbeats 4000000
namespace Wk25
open PySem PySem.Spec PyProof.Rows L2 PL
/-! the text -/
def top (i : Nat) : Stmt := PySem.Challenge.pw_latersums_k25_whole_sectors_steps_and_ki.main.body.getD i (.Pass ⟨0, 0, 0, 0⟩)
abbrev s__law_hand : Stmt := top 30
theorem sc__law_hand : FnScope ["script", "cells", "cell"] ["script"] (defScope s__law_hand) := ⟨rfl, rfl, rfl, by decide +kernel, rfl, by decide +kernel, by decide +kernel⟩
abbrev s_is_row : Stmt := top 4
theorem sc_is_row : FnScope ["thing"] ["thing"] (defScope s_is_row) := ⟨rfl, rfl, rfl, by decide +kernel, rfl, by decide +kernel, by decide +kernel⟩
abbrev s_is_integer : Stmt := top 2
theorem sc_is_integer : FnScope ["thing"] ["thing"] (defScope s_is_integer) := ⟨rfl, rfl, rfl, by decide +kernel, rfl, by decide +kernel, by decide +kernel⟩
abbrev s_check_makers : Stmt := top 17
theorem sc_check_makers : FnScope ["rows", "row", "one"] ["rows"] (defScope s_check_makers) := ⟨rfl, rfl, rfl, by decide +kernel, rfl, by decide +kernel, by decide +kernel⟩
abbrev s_are_integers : Stmt := top 11
theorem sc_are_integers : FnScope ["thing", "many", "one"] ["thing", "many"] (defScope s_are_integers) := ⟨rfl, rfl, rfl, by decide +kernel, rfl, by decide +kernel, by decide +kernel⟩
abbrev s_check_like : Stmt := top 18
theorem sc_check_like : FnScope ["rows", "row"] ["rows", "row"] (defScope s_check_like) := ⟨rfl, rfl, rfl, by decide +kernel, rfl, by decide +kernel, by decide +kernel⟩
abbrev s_greatest_shifts : Stmt := top 19
theorem sc_greatest_shifts : FnScope ["rows", "row", "maker", "one", "goal"] ["rows", "row"] (defScope s_greatest_shifts) := ⟨rfl, rfl, rfl, by decide +kernel, rfl, by decide +kernel, by decide +kernel⟩
abbrev s_sectors : Stmt := top 26
theorem sc_sectors : FnScope ["rows", "row", "shifts", "found", "at", "goal", "place", "maker"] ["rows", "row"] (defScope s_sectors) := ⟨rfl, rfl, rfl, by decide +kernel, rfl, by decide +kernel, by decide +kernel⟩
abbrev s_far : Stmt := top 23
theorem sc_far : FnScope ["one", "other", "gaps", "mine", "its"] ["one", "other"] (defScope s_far) := ⟨rfl, rfl, rfl, by decide +kernel, rfl, by decide +kernel, by decide +kernel⟩
abbrev s_step_row : Stmt := top 24
theorem sc_step_row : FnScope ["one", "other", "number", "mine", "its"] ["one", "other", "number"] (defScope s_step_row) := ⟨rfl, rfl, rfl, by decide +kernel, rfl, by decide +kernel, by decide +kernel⟩
abbrev s_plain_row : Stmt := top 22
theorem sc_plain_row : FnScope ["row", "one"] ["row"] (defScope s_plain_row) := ⟨rfl, rfl, rfl, by decide +kernel, rfl, by decide +kernel, by decide +kernel⟩
abbrev s_kinks : Stmt := top 25
theorem sc_kinks : FnScope ["one", "other", "gaps", "mine", "its", "gap"] ["one", "other"] (defScope s_kinks) := ⟨rfl, rfl, rfl, by decide +kernel, rfl, by decide +kernel, by decide +kernel⟩
abbrev s_is_within : Stmt := top 3
theorem sc_is_within : FnScope ["thing", "low", "high"] ["thing", "low", "high"] (defScope s_is_within) := ⟨rfl, rfl, rfl, by decide +kernel, rfl, by decide +kernel, by decide +kernel⟩
abbrev s_is_lot : Stmt := top 12
theorem sc_is_lot : FnScope ["thing", "many", "one", "other"] ["thing", "many"] (defScope s_is_lot) := ⟨rfl, rfl, rfl, by decide +kernel, rfl, by decide +kernel, by decide +kernel⟩
abbrev s_check_lot : Stmt := top 13
theorem sc_check_lot : FnScope ["thing", "many"] ["thing", "many"] (defScope s_check_lot) := ⟨rfl, rfl, rfl, by decide +kernel, rfl, by decide +kernel, by decide +kernel⟩
abbrev s_made : Stmt := top 20
theorem sc_made : FnScope ["rows", "shifts", "pairs", "at", "maker", "number"] ["rows", "shifts"] (defScope s_made) := ⟨rfl, rfl, rfl, by decide +kernel, rfl, by decide +kernel, by decide +kernel⟩
abbrev s_is_in_span : Stmt := top 21
theorem sc_is_in_span : FnScope ["rows", "row"] ["rows", "row"] (defScope s_is_in_span) := ⟨rfl, rfl, rfl, by decide +kernel, rfl, by decide +kernel, by decide +kernel⟩
abbrev s_is_inner : Stmt := top 27
theorem sc_is_inner : FnScope ["rows", "row", "lot", "place"] ["rows", "row", "lot"] (defScope s_is_inner) := ⟨rfl, rfl, rfl, by decide +kernel, rfl, by decide +kernel, by decide +kernel⟩
abbrev s__law_draw : Stmt := top 31
theorem sc__law_draw : FnScope ["hand", "bound", "cell", "digit", "number"] ["hand", "bound"] (defScope s__law_draw) := ⟨rfl, rfl, rfl, by decide +kernel, rfl, by decide +kernel, by decide +kernel⟩
abbrev s__law_makers : Stmt := top 34
theorem sc__law_makers : FnScope ["hand", "wide", "a", "b"] ["hand", "wide"] (defScope s__law_makers) := ⟨rfl, rfl, rfl, by decide +kernel, rfl, by decide +kernel, by decide +kernel⟩
abbrev s__law_made : Stmt := top 36
theorem sc__law_made : FnScope ["makers", "shifts", "found", "at", "maker", "shift"] ["makers", "shifts"] (defScope s__law_made) := ⟨rfl, rfl, rfl, by decide +kernel, rfl, by decide +kernel, by decide +kernel⟩
abbrev s__law_shifts : Stmt := top 35
theorem sc__law_shifts : FnScope ["makers", "row", "maker", "a", "b"] ["makers", "row"] (defScope s__law_shifts) := ⟨rfl, rfl, rfl, by decide +kernel, rfl, by decide +kernel, by decide +kernel⟩
abbrev s__law_near : Stmt := top 37
theorem sc__law_near : FnScope ["makers", "row"] ["makers", "row"] (defScope s__law_near) := ⟨rfl, rfl, rfl, by decide +kernel, rfl, by decide +kernel, by decide +kernel⟩
abbrev s_cut_by : Stmt := top 28
theorem sc_cut_by : FnScope ["rows", "row", "shifts", "found", "maker", "number", "at", "goal"] ["rows", "row"] (defScope s_cut_by) := ⟨rfl, rfl, rfl, by decide +kernel, rfl, by decide +kernel, by decide +kernel⟩
abbrev s__law_any : Stmt := top 32
theorem sc__law_any : FnScope ["hand", "things"] ["hand", "things"] (defScope s__law_any) := ⟨rfl, rfl, rfl, by decide +kernel, rfl, by decide +kernel, by decide +kernel⟩
abbrev s__law_lots : Stmt := top 33
theorem sc__law_lots : FnScope ["many", "found", "at", "lot"] ["many"] (defScope s__law_lots) := ⟨rfl, rfl, rfl, by decide +kernel, rfl, by decide +kernel, by decide +kernel⟩
abbrev s_law : Stmt := top 38
theorem sc_law : FnScope ["script", "hand", "known", "lap", "wide", "makers", "row", "shifts", "due", "at", "lots", "lot", "some", "one", "other", "less", "number", "rows", "a", "maker", "b", "row_of"] ["script"] (defScope s_law) := ⟨rfl, rfl, rfl, by decide +kernel, rfl, by decide +kernel, by decide +kernel⟩
def flds : Nat → List Str := fun c => match c with | _ => []
/-- what the top has written -/
structure Tx (K : PySem.W.Frag) (mg : Str → Option Value) where
  f__law_hand : Addr
  d__law_hand : FuncData
  f_is_row : Addr
  d_is_row : FuncData
  f_is_integer : Addr
  d_is_integer : FuncData
  f_check_makers : Addr
  d_check_makers : FuncData
  f_are_integers : Addr
  d_are_integers : FuncData
  f_check_like : Addr
  d_check_like : FuncData
  f_greatest_shifts : Addr
  d_greatest_shifts : FuncData
  f_sectors : Addr
  d_sectors : FuncData
  f_far : Addr
  d_far : FuncData
  f_step_row : Addr
  d_step_row : FuncData
  f_plain_row : Addr
  d_plain_row : FuncData
  f_kinks : Addr
  d_kinks : FuncData
  f_is_within : Addr
  d_is_within : FuncData
  f_is_lot : Addr
  d_is_lot : FuncData
  f_check_lot : Addr
  d_check_lot : FuncData
  f_made : Addr
  d_made : FuncData
  f_is_in_span : Addr
  d_is_in_span : FuncData
  f_is_inner : Addr
  d_is_inner : FuncData
  f__law_draw : Addr
  d__law_draw : FuncData
  f__law_makers : Addr
  d__law_makers : FuncData
  f__law_made : Addr
  d__law_made : FuncData
  f__law_shifts : Addr
  d__law_shifts : FuncData
  f__law_near : Addr
  d__law_near : FuncData
  f_cut_by : Addr
  d_cut_by : FuncData
  f__law_any : Addr
  d__law_any : FuncData
  f__law_lots : Addr
  d__law_lots : FuncData
  f_law : Addr
  d_law : FuncData
  F__law_hand : Fun K "_law_hand" "_law_hand" s__law_hand f__law_hand d__law_hand
  b__law_hand : Binds K d__law_hand ["script"] []
  g__law_hand : mg "_law_hand" = some (.ref f__law_hand)
  F_is_row : Fun K "is_row" "is_row" s_is_row f_is_row d_is_row
  b_is_row : Binds K d_is_row ["thing"] []
  g_is_row : mg "is_row" = some (.ref f_is_row)
  F_is_integer : Fun K "is_integer" "is_integer" s_is_integer f_is_integer d_is_integer
  b_is_integer : Binds K d_is_integer ["thing"] []
  g_is_integer : mg "is_integer" = some (.ref f_is_integer)
  F_check_makers : Fun K "check_makers" "check_makers" s_check_makers f_check_makers d_check_makers
  b_check_makers : Binds K d_check_makers ["rows"] []
  g_check_makers : mg "check_makers" = some (.ref f_check_makers)
  F_are_integers : Fun K "are_integers" "are_integers" s_are_integers f_are_integers d_are_integers
  b_are_integers : Binds K d_are_integers ["thing", "many"] []
  g_are_integers : mg "are_integers" = some (.ref f_are_integers)
  F_check_like : Fun K "check_like" "check_like" s_check_like f_check_like d_check_like
  b_check_like : Binds K d_check_like ["rows", "row"] []
  g_check_like : mg "check_like" = some (.ref f_check_like)
  F_greatest_shifts : Fun K "greatest_shifts" "greatest_shifts" s_greatest_shifts f_greatest_shifts d_greatest_shifts
  b_greatest_shifts : Binds K d_greatest_shifts ["rows", "row"] []
  g_greatest_shifts : mg "greatest_shifts" = some (.ref f_greatest_shifts)
  F_sectors : Fun K "sectors" "sectors" s_sectors f_sectors d_sectors
  b_sectors : Binds K d_sectors ["rows", "row"] []
  g_sectors : mg "sectors" = some (.ref f_sectors)
  F_far : Fun K "far" "far" s_far f_far d_far
  b_far : Binds K d_far ["one", "other"] []
  g_far : mg "far" = some (.ref f_far)
  F_step_row : Fun K "step_row" "step_row" s_step_row f_step_row d_step_row
  b_step_row : Binds K d_step_row ["one", "other", "number"] []
  g_step_row : mg "step_row" = some (.ref f_step_row)
  F_plain_row : Fun K "plain_row" "plain_row" s_plain_row f_plain_row d_plain_row
  b_plain_row : Binds K d_plain_row ["row"] []
  g_plain_row : mg "plain_row" = some (.ref f_plain_row)
  F_kinks : Fun K "kinks" "kinks" s_kinks f_kinks d_kinks
  b_kinks : Binds K d_kinks ["one", "other"] []
  g_kinks : mg "kinks" = some (.ref f_kinks)
  F_is_within : Fun K "is_within" "is_within" s_is_within f_is_within d_is_within
  b_is_within : Binds K d_is_within ["thing", "low", "high"] []
  g_is_within : mg "is_within" = some (.ref f_is_within)
  F_is_lot : Fun K "is_lot" "is_lot" s_is_lot f_is_lot d_is_lot
  b_is_lot : Binds K d_is_lot ["thing", "many"] []
  g_is_lot : mg "is_lot" = some (.ref f_is_lot)
  F_check_lot : Fun K "check_lot" "check_lot" s_check_lot f_check_lot d_check_lot
  b_check_lot : Binds K d_check_lot ["thing", "many"] []
  g_check_lot : mg "check_lot" = some (.ref f_check_lot)
  F_made : Fun K "made" "made" s_made f_made d_made
  b_made : Binds K d_made ["rows", "shifts"] []
  g_made : mg "made" = some (.ref f_made)
  F_is_in_span : Fun K "is_in_span" "is_in_span" s_is_in_span f_is_in_span d_is_in_span
  b_is_in_span : Binds K d_is_in_span ["rows", "row"] []
  g_is_in_span : mg "is_in_span" = some (.ref f_is_in_span)
  F_is_inner : Fun K "is_inner" "is_inner" s_is_inner f_is_inner d_is_inner
  b_is_inner : Binds K d_is_inner ["rows", "row", "lot"] []
  g_is_inner : mg "is_inner" = some (.ref f_is_inner)
  F__law_draw : Fun K "_law_draw" "_law_draw" s__law_draw f__law_draw d__law_draw
  b__law_draw : Binds K d__law_draw ["hand", "bound"] []
  g__law_draw : mg "_law_draw" = some (.ref f__law_draw)
  F__law_makers : Fun K "_law_makers" "_law_makers" s__law_makers f__law_makers d__law_makers
  b__law_makers : Binds K d__law_makers ["hand", "wide"] []
  g__law_makers : mg "_law_makers" = some (.ref f__law_makers)
  F__law_made : Fun K "_law_made" "_law_made" s__law_made f__law_made d__law_made
  b__law_made : Binds K d__law_made ["makers", "shifts"] []
  g__law_made : mg "_law_made" = some (.ref f__law_made)
  F__law_shifts : Fun K "_law_shifts" "_law_shifts" s__law_shifts f__law_shifts d__law_shifts
  b__law_shifts : Binds K d__law_shifts ["makers", "row"] []
  g__law_shifts : mg "_law_shifts" = some (.ref f__law_shifts)
  F__law_near : Fun K "_law_near" "_law_near" s__law_near f__law_near d__law_near
  b__law_near : Binds K d__law_near ["makers", "row"] []
  g__law_near : mg "_law_near" = some (.ref f__law_near)
  F_cut_by : Fun K "cut_by" "cut_by" s_cut_by f_cut_by d_cut_by
  b_cut_by : Binds K d_cut_by ["rows", "row"] []
  g_cut_by : mg "cut_by" = some (.ref f_cut_by)
  F__law_any : Fun K "_law_any" "_law_any" s__law_any f__law_any d__law_any
  b__law_any : Binds K d__law_any ["hand", "things"] []
  g__law_any : mg "_law_any" = some (.ref f__law_any)
  F__law_lots : Fun K "_law_lots" "_law_lots" s__law_lots f__law_lots d__law_lots
  b__law_lots : Binds K d__law_lots ["many"] []
  g__law_lots : mg "_law_lots" = some (.ref f__law_lots)
  F_law : Fun K "law" "law" s_law f_law d_law
  b_law : Binds K d_law ["script"] []
  g_law : mg "law" = some (.ref f_law)
  m_abs : mg "abs" = none
  m_all : mg "all" = none
  m_bool : mg "bool" = none
  m_enumerate : mg "enumerate" = none
  m_int : mg "int" = none
  m_isinstance : mg "isinstance" = none
  m_len : mg "len" = none
  m_list : mg "list" = none
  m_max : mg "max" = none
  m_min : mg "min" = none
  m_range : mg "range" = none
  m_repr : mg "repr" = none
  m_set : mg "set" = none
  m_sorted : mg "sorted" = none
  m_tuple : mg "tuple" = none
  m_zip : mg "zip" = none
  k_MOST_MAKERS : ∃ u, mg "MOST_MAKERS" = some u ∧ L2.RelV (.int 8) u
  k_MOST_WIDE : ∃ u, mg "MOST_WIDE" = some u ∧ L2.RelV (.int 8) u
section
variable {P : Program} {w : World} {K : PySem.W.Frag} {mg : Str → Option Value} {base : Heap}
def RR (T : Tx K mg) : RE := { K := K, cl := fun c => match c with | _ => 0, fl := flds }
theorem ok__law_hand (T : Tx K mg) : FnP P w K mg base (RR T) 1 T.f__law_hand T.d__law_hand ["script"] F__law_hand :=
  fn_pl' (pr := [0]) T.F__law_hand sc__law_hand rfl (by decide) (by decide) (fun cdv A outer s H E hr => (ssv_cons (sv_setLc (own := [("cell", 2)]) rfl sc__law_hand.nd (i := 1) rfl rfl (by decide) (by rfl) (iv_seq rfl (ev_sl rfl (vPk 0) ov_none (ov_some ev_int))) (blkOk_by (by rfl)) (by decide) (by decide) (fun s H C cl fp => (gv_name (i := 2) sc__law_hand.nd rfl (by first | exact .inl rfl | exact .inr rfl))) (fun s H C cl fp => tsv_nil) (fun s H C cl fp => (ev_callB call_abs cok_abs (by rfl) T.m_abs boot_abs (av_cons (ev_callTy call_int1 cok_int (by rfl) T.m_int boot_int (av_cons (vPk 2) av_nil)) av_nil))) (s0 := s) (H0 := H)) (ssv_one (sv_ret (ev_lst (av_cons (vVar 1) (av_cons ev_int (av_cons ev_int (av_cons (ev_add rfl ev_int (ev_callB L2.call_len cok_len (by rfl) T.m_len boot_len (av_cons (vPk 1) av_nil))) (av_cons ev_int av_nil))))))))))
theorem ok_is_row (T : Tx K mg) : FnP P w K mg base (RR T) 1 T.f_is_row T.d_is_row ["thing"] F_is_row :=
  fn_pl' (pr := [0]) T.F_is_row sc_is_row rfl (by decide) (by decide) (fun cdv A outer s H E hr => (ssv_one (sv_ret (ev_callB (call_isi.or (call_isiT.or call_isiK)) cok_isi (by rfl) T.m_isinstance boot_isinstance (av_cons (vPk 0) (av_cons (ev_tup (av_cons (vTy .list T.m_list boot_list) (av_cons (vTy .tuple T.m_tuple boot_tuple) av_nil))) av_nil))))))
theorem ok_is_integer (T : Tx K mg) : FnP P w K mg base (RR T) 1 T.f_is_integer T.d_is_integer ["thing"] F_is_integer :=
  fn_pl' (pr := [0]) T.F_is_integer sc_is_integer rfl (by decide) (by decide) (fun cdv A outer s H E hr => (ssv_one (sv_ret (ev_and (ev_callB (call_isi.or (call_isiT.or call_isiK)) cok_isi (by rfl) T.m_isinstance boot_isinstance (av_cons (vPk 0) (av_cons (vTy .int T.m_int boot_int) av_nil))) (ev_one (ev_not (ev_callB (call_isi.or (call_isiT.or call_isiK)) cok_isi (by rfl) T.m_isinstance boot_isinstance (av_cons (vPk 0) (av_cons (vTy .bool T.m_bool boot_bool) av_nil)))))))))
theorem ok_check_makers (T : Tx K mg) : FnP P w K mg base (RR T) 2 T.f_check_makers T.d_check_makers ["rows"] F_check_makers :=
  fn_pl' (pr := [0]) T.F_check_makers sc_check_makers rfl (by decide) (by decide) (fun cdv A outer s H E hr => (ssv_cons (sv_if (Wv.tv (wv_or (tv_not (tv_val (ev_call (ok_is_row T) (hr.mono (by decide)) (by rfl) T.g_is_row T.F_is_row.kp T.b_is_row (av_cons (vVar 0) av_nil)))) (wv_or1 (tv_not (tv_chain op_le op_le bin_le bin_le ev_int (ev_callB L2.call_len cok_len (by rfl) T.m_len boot_len (av_cons (vPk 0) av_nil)) (ev_gc (v := .int 8) (by rfl) T.k_MOST_MAKERS (fun F => .int _))))))) (ssv_one sv_never) ssv_nil) (ssv_one (sv_for PassesOwn.never rfl (iv_seq rfl (vVar 0)) (gv_name (i := 1) sc_check_makers.nd rfl (by first | exact .inl rfl | exact .inr rfl)) (ssv_cons (sv_if (Wv.tv (wv_or (tv_not (tv_val (ev_call (ok_is_row T) (hr.mono (by decide)) (by rfl) T.g_is_row T.F_is_row.kp T.b_is_row (av_cons (vVar 1) av_nil)))) (wv_or (tv_not (tv_chain op_le op_le bin_le bin_le ev_int (ev_callB L2.call_len cok_len (by rfl) T.m_len boot_len (av_cons (vPk 1) av_nil)) (ev_gc (v := .int 8) (by rfl) T.k_MOST_WIDE (fun F => .int _)))) (wv_or1 (tv_cmp (op_neD (hu64 hr)) bin_ne (ev_callB L2.call_len cok_len (by rfl) T.m_len boot_len (av_cons (vPk 1) av_nil)) (ev_callB L2.call_len cok_len (by rfl) T.m_len boot_len (av_cons (ev_ix rfl (vPk 0) ev_int) av_nil)) (nomark _)))))) (ssv_one sv_never) ssv_nil) (ssv_one (sv_if (tv_not (tv_val (ev_callB (cr_all rfl) cok_all (by rfl) T.m_all boot_all (av_cons (ev_lc (own := [("one", 2)]) rfl sc_check_makers.nd (iv_seq rfl (vVar 1)) (blkOk_by (by rfl)) (by decide) (by decide) (fun s H C cl fp => (gv_name (i := 2) sc_check_makers.nd rfl (by first | exact .inl rfl | exact .inr rfl))) (fun s H C cl fp => tsv_nil) (fun s H C cl fp => (ev_call (ok_is_integer T) (hr.mono (by decide)) (by rfl) T.g_is_integer T.F_is_integer.kp T.b_is_integer (av_cons (vVar 2) av_nil))) (s0 := s) (H0 := H)) av_nil)))) (ssv_one sv_never) ssv_nil))) (by decide)))))
theorem ok_are_integers (T : Tx K mg) : FnP P w K mg base (RR T) 2 T.f_are_integers T.d_are_integers ["thing", "many"] F_are_integers :=
  fn_pl' (pr := [0, 1]) T.F_are_integers sc_are_integers rfl (by decide) (by decide) (fun cdv A outer s H E hr => (ssv_one (sv_ret (ev_and (ev_call (ok_is_row T) (hr.mono (by decide)) (by rfl) T.g_is_row T.F_is_row.kp T.b_is_row (av_cons (vVar 0) av_nil)) (ev_and (ev_cmp (op_eqD (hu64 hr)) bin_eq (ev_callB L2.call_len cok_len (by rfl) T.m_len boot_len (av_cons (vPk 0) av_nil)) (vPk 1) (nomark _)) (ev_one (ev_callB (cr_all rfl) cok_all (by rfl) T.m_all boot_all (av_cons (ev_lc (own := [("one", 2)]) rfl sc_are_integers.nd (iv_seq rfl (vVar 0)) (blkOk_by (by rfl)) (by decide) (by decide) (fun s H C cl fp => (gv_name (i := 2) sc_are_integers.nd rfl (by first | exact .inl rfl | exact .inr rfl))) (fun s H C cl fp => tsv_nil) (fun s H C cl fp => (ev_call (ok_is_integer T) (hr.mono (by decide)) (by rfl) T.g_is_integer T.F_is_integer.kp T.b_is_integer (av_cons (vVar 2) av_nil))) (s0 := s) (H0 := H)) av_nil))))))))
theorem ok_check_like (T : Tx K mg) : FnP P w K mg base (RR T) 3 T.f_check_like T.d_check_like ["rows", "row"] F_check_like :=
  fn_pl' (pr := [0, 1]) T.F_check_like sc_check_like rfl (by decide) (by decide) (fun cdv A outer s H E hr => (ssv_cons (sv_expr (ev_call (ok_check_makers T) (hr.mono (by decide)) (by rfl) T.g_check_makers T.F_check_makers.kp T.b_check_makers (av_cons (vVar 0) av_nil))) (ssv_one (sv_if (tv_not (tv_val (ev_call (ok_are_integers T) (hr.mono (by decide)) (by rfl) T.g_are_integers T.F_are_integers.kp T.b_are_integers (av_cons (vVar 1) (av_cons (ev_callB L2.call_len cok_len (by rfl) T.m_len boot_len (av_cons (ev_ix rfl (vPk 0) ev_int) av_nil)) av_nil))))) (ssv_one sv_never) ssv_nil))))
theorem ok_greatest_shifts (T : Tx K mg) : FnP P w K mg base (RR T) 4 T.f_greatest_shifts T.d_greatest_shifts ["rows", "row"] F_greatest_shifts :=
  fn_pl' (pr := [0, 1]) T.F_greatest_shifts sc_greatest_shifts rfl (by decide) (by decide) (fun cdv A outer s H E hr => (ssv_cons (sv_expr (ev_call (ok_check_like T) (hr.mono (by decide)) (by rfl) T.g_check_like T.F_check_like.kp T.b_check_like (av_cons (vVar 0) (av_cons (vVar 1) av_nil)))) (ssv_one (sv_ret (ev_callTy call_tuple_of cok_tuple (by rfl) T.m_tuple boot_tuple (av_cons (ev_lc (own := [("maker", 2)]) rfl sc_greatest_shifts.nd (iv_seq rfl (vVar 0)) (blkOk_by (by rfl)) (by decide) (by decide) (fun s H C cl fp => (gv_name (i := 2) sc_greatest_shifts.nd rfl (by first | exact .inl rfl | exact .inr rfl))) (fun s H C cl fp => tsv_nil) (fun s H C cl fp => (ev_callB ((callr_min rfl).or (cr_minT rfl)) cok_min2 (by rfl) T.m_min boot_min (av_cons (ev_lc (own := [("one", 3), ("goal", 4)]) rfl sc_greatest_shifts.nd (iv_zip2 rfl (by rfl) T.m_zip (av_cons (vVar 2) (av_cons (vVar 1) av_nil))) (blkOk_by (by rfl)) (by decide) (by decide) (fun s H C cl fp => (gv_tup (n := 2) rfl rfl (gsv_cons (gv_name (i := 3) sc_greatest_shifts.nd rfl (by first | exact .inl rfl | exact .inr rfl)) (gsv_cons (gv_name (i := 4) sc_greatest_shifts.nd rfl (by first | exact .inl rfl | exact .inr rfl)) gsv_nil)) (gs_lenS (gs_lenS gs_len0)))) (fun s H C cl fp => tsv_nil) (fun s H C cl fp => (ev_sub (vPk 4) (vPk 3))) (s0 := s) (H0 := H)) av_nil))) (s0 := s) (H0 := H)) av_nil))))))
theorem ok_sectors (T : Tx K mg) : FnP P w K mg base (RR T) 5 T.f_sectors T.d_sectors ["rows", "row"] F_sectors :=
  fn_pl' (pr := [0, 1]) T.F_sectors sc_sectors rfl (by decide) (by decide) (fun cdv A outer s H E hr => (ssv_cons (sv_parC (i := 2) (j := 3) rfl sc_sectors.nd rfl rfl (by first | exact .inl rfl | exact .inr rfl) (by first | exact .inl rfl | exact .inr rfl) (by decide) (by decide) (av_cons (ev_call (ok_greatest_shifts T) (hr.mono (by decide)) (by rfl) T.g_greatest_shifts T.F_greatest_shifts.kp T.b_greatest_shifts (av_cons (vVar 0) (av_cons (vVar 1) av_nil))) (av_cons (ev_lst av_nil) av_nil))) (ssv_cons (sv_for PassesOwn.never rfl (iv_enum rfl (by rfl) T.m_enumerate (av_cons (vVar 1) av_nil)) (gv_tup (n := 2) rfl rfl (gsv_cons (gv_name (i := 4) sc_sectors.nd rfl (by first | exact .inl rfl | exact .inr rfl)) (gsv_cons (gv_name (i := 5) sc_sectors.nd rfl (by first | exact .inl rfl | exact .inr rfl)) gsv_nil)) (gs_lenS (gs_lenS gs_len0))) (ssv_one (sv_expr (ev_append (i := 3) rfl (by first | exact .inl rfl | exact .inr (.inl rfl) | exact .inr (.inr rfl)) (ev_callTy call_tuple_of cok_tuple (by rfl) T.m_tuple boot_tuple (av_cons (ev_lc (own := [("place", 6), ("maker", 7)]) rfl sc_sectors.nd (iv_enum rfl (by rfl) T.m_enumerate (av_cons (vVar 0) av_nil)) (blkOk_by (by rfl)) (by decide) (by decide) (fun s H C cl fp => (gv_tup (n := 2) rfl rfl (gsv_cons (gv_name (i := 6) sc_sectors.nd rfl (by first | exact .inl rfl | exact .inr rfl)) (gsv_cons (gv_name (i := 7) sc_sectors.nd rfl (by first | exact .inl rfl | exact .inr rfl)) gsv_nil)) (gs_lenS (gs_lenS gs_len0)))) (fun s H C cl fp => (tsv_one (tv_cmp (op_eqD (hu64 hr)) bin_eq (ev_add rfl (ev_ix rfl (vPk 7) (vPk 4)) (ev_ix rfl (vPk 2) (vPk 6))) (vPk 5) (nomark _)))) (fun s H C cl fp => (vVar 6)) (s0 := s) (H0 := H)) av_nil))))) (by decide)) (ssv_one (sv_ret (vMv 3))))))
theorem ok_far (T : Tx K mg) : FnP P w K mg base (RR T) 3 T.f_far T.d_far ["one", "other"] F_far :=
  fn_pl' (pr := [0, 1]) T.F_far sc_far rfl (by decide) (by decide) (fun cdv A outer s H E hr => (ssv_cons (sv_if (Wv.tv (wv_or (tv_not (tv_val (ev_call (ok_is_row T) (hr.mono (by decide)) (by rfl) T.g_is_row T.F_is_row.kp T.b_is_row (av_cons (vVar 0) av_nil)))) (wv_or (tv_not (tv_val (ev_call (ok_are_integers T) (hr.mono (by decide)) (by rfl) T.g_are_integers T.F_are_integers.kp T.b_are_integers (av_cons (vVar 0) (av_cons (ev_callB L2.call_len cok_len (by rfl) T.m_len boot_len (av_cons (vPk 0) av_nil)) av_nil))))) (wv_or (tv_cmp (op_eqD (hu64 hr)) bin_eq (vPk 0) (ev_tup av_nil) (nomark _)) (wv_or1 (tv_not (tv_val (ev_call (ok_are_integers T) (hr.mono (by decide)) (by rfl) T.g_are_integers T.F_are_integers.kp T.b_are_integers (av_cons (vVar 1) (av_cons (ev_callB L2.call_len cok_len (by rfl) T.m_len boot_len (av_cons (vPk 0) av_nil)) av_nil)))))))))) (ssv_one sv_never) ssv_nil) (ssv_cons (sv_setLc (own := [("mine", 3), ("its", 4)]) rfl sc_far.nd (i := 2) rfl rfl (by decide) (by rfl) (iv_zip2 rfl (by rfl) T.m_zip (av_cons (vVar 0) (av_cons (vVar 1) av_nil))) (blkOk_by (by rfl)) (by decide) (by decide) (fun s H C cl fp => (gv_tup (n := 2) rfl rfl (gsv_cons (gv_name (i := 3) sc_far.nd rfl (by first | exact .inl rfl | exact .inr rfl)) (gsv_cons (gv_name (i := 4) sc_far.nd rfl (by first | exact .inl rfl | exact .inr rfl)) gsv_nil)) (gs_lenS (gs_lenS gs_len0)))) (fun s H C cl fp => tsv_nil) (fun s H C cl fp => (ev_sub (vPk 3) (vPk 4))) (s0 := s) (H0 := H)) (ssv_one (sv_ret (ev_sub (ev_callB ((callr_max rfl).or (cr_maxT rfl)) cok_max2 (by rfl) T.m_max boot_max (av_cons (vPk 2) av_nil)) (ev_callB ((callr_min rfl).or (cr_minT rfl)) cok_min2 (by rfl) T.m_min boot_min (av_cons (vPk 2) av_nil))))))))
theorem ok_step_row (T : Tx K mg) : FnP P w K mg base (RR T) 3 T.f_step_row T.d_step_row ["one", "other", "number"] F_step_row :=
  fn_pl' (pr := [0, 1, 2]) T.F_step_row sc_step_row rfl (by decide) (by decide) (fun cdv A outer s H E hr => (ssv_cons (sv_if (Wv.tv (wv_or (tv_not (tv_val (ev_call (ok_is_row T) (hr.mono (by decide)) (by rfl) T.g_is_row T.F_is_row.kp T.b_is_row (av_cons (vVar 0) av_nil)))) (wv_or (tv_not (tv_val (ev_call (ok_are_integers T) (hr.mono (by decide)) (by rfl) T.g_are_integers T.F_are_integers.kp T.b_are_integers (av_cons (vVar 0) (av_cons (ev_callB L2.call_len cok_len (by rfl) T.m_len boot_len (av_cons (vPk 0) av_nil)) av_nil))))) (wv_or1 (tv_not (tv_val (ev_call (ok_are_integers T) (hr.mono (by decide)) (by rfl) T.g_are_integers T.F_are_integers.kp T.b_are_integers (av_cons (vVar 1) (av_cons (ev_callB L2.call_len cok_len (by rfl) T.m_len boot_len (av_cons (vPk 0) av_nil)) av_nil))))))))) (ssv_one sv_never) ssv_nil) (ssv_cons (sv_if (tv_not (tv_val (ev_call (ok_is_integer T) (hr.mono (by decide)) (by rfl) T.g_is_integer T.F_is_integer.kp T.b_is_integer (av_cons (vVar 2) av_nil)))) (ssv_one sv_never) ssv_nil) (ssv_one (sv_ret (ev_callTy call_tuple_of cok_tuple (by rfl) T.m_tuple boot_tuple (av_cons (ev_lc (own := [("mine", 3), ("its", 4)]) rfl sc_step_row.nd (iv_zip2 rfl (by rfl) T.m_zip (av_cons (vVar 0) (av_cons (vVar 1) av_nil))) (blkOk_by (by rfl)) (by decide) (by decide) (fun s H C cl fp => (gv_tup (n := 2) rfl rfl (gsv_cons (gv_name (i := 3) sc_step_row.nd rfl (by first | exact .inl rfl | exact .inr rfl)) (gsv_cons (gv_name (i := 4) sc_step_row.nd rfl (by first | exact .inl rfl | exact .inr rfl)) gsv_nil)) (gs_lenS (gs_lenS gs_len0)))) (fun s H C cl fp => tsv_nil) (fun s H C cl fp => (ev_callB ((callr_max rfl).or (cr_maxT rfl)) cok_max2 (by rfl) T.m_max boot_max (av_cons (vPk 3) (av_cons (ev_add rfl (vPk 4) (vPk 2)) av_nil)))) (s0 := s) (H0 := H)) av_nil)))))))
theorem ok_plain_row (T : Tx K mg) : FnP P w K mg base (RR T) 1 T.f_plain_row T.d_plain_row ["row"] F_plain_row :=
  fn_pl' (pr := [0]) T.F_plain_row sc_plain_row rfl (by decide) (by decide) (fun cdv A outer s H E hr => (ssv_one (sv_ret (ev_callTy call_tuple_of cok_tuple (by rfl) T.m_tuple boot_tuple (av_cons (ev_lc (own := [("one", 1)]) rfl sc_plain_row.nd (iv_seq rfl (vVar 0)) (blkOk_by (by rfl)) (by decide) (by decide) (fun s H C cl fp => (gv_name (i := 1) sc_plain_row.nd rfl (by first | exact .inl rfl | exact .inr rfl))) (fun s H C cl fp => tsv_nil) (fun s H C cl fp => (ev_sub (vPk 1) (ev_ix rfl (vPk 0) ev_int))) (s0 := s) (H0 := H)) av_nil)))))
theorem ok_kinks (T : Tx K mg) : FnP P w K mg base (RR T) 4 T.f_kinks T.d_kinks ["one", "other"] F_kinks :=
  fn_pl' (pr := [0, 1]) T.F_kinks sc_kinks rfl (by decide) (by decide) (fun cdv A outer s H E hr => (ssv_cons (sv_if (Wv.tv (wv_or (tv_not (tv_val (ev_call (ok_is_row T) (hr.mono (by decide)) (by rfl) T.g_is_row T.F_is_row.kp T.b_is_row (av_cons (vVar 0) av_nil)))) (wv_or (tv_cmp (op_eqD (hu64 hr)) bin_eq (ev_callB L2.call_len cok_len (by rfl) T.m_len boot_len (av_cons (vPk 0) av_nil)) ev_int (nomark _)) (wv_or (tv_not (tv_val (ev_call (ok_are_integers T) (hr.mono (by decide)) (by rfl) T.g_are_integers T.F_are_integers.kp T.b_are_integers (av_cons (vVar 0) (av_cons (ev_callB L2.call_len cok_len (by rfl) T.m_len boot_len (av_cons (vPk 0) av_nil)) av_nil))))) (wv_or1 (tv_not (tv_val (ev_call (ok_are_integers T) (hr.mono (by decide)) (by rfl) T.g_are_integers T.F_are_integers.kp T.b_are_integers (av_cons (vVar 1) (av_cons (ev_callB L2.call_len cok_len (by rfl) T.m_len boot_len (av_cons (vPk 0) av_nil)) av_nil)))))))))) (ssv_one sv_never) ssv_nil) (ssv_cons (sv_set (i := 2) sc_kinks.nd rfl (by first | exact .inl rfl | exact .inr rfl) (by decide) (ev_call2 (cr_sortAny rfl (hu64 hr)) (cr_setAny rfl (hu64 hr)) cok_SS (by rfl) T.m_sorted boot_sorted (by rfl) T.m_set PyProof.Rows.boot_set (av_cons (ev_lc (own := [("mine", 3), ("its", 4)]) rfl sc_kinks.nd (iv_zip2 rfl (by rfl) T.m_zip (av_cons (vVar 0) (av_cons (vVar 1) av_nil))) (blkOk_by (by rfl)) (by decide) (by decide) (fun s H C cl fp => (gv_tup (n := 2) rfl rfl (gsv_cons (gv_name (i := 3) sc_kinks.nd rfl (by first | exact .inl rfl | exact .inr rfl)) (gsv_cons (gv_name (i := 4) sc_kinks.nd rfl (by first | exact .inl rfl | exact .inr rfl)) gsv_nil)) (gs_lenS (gs_lenS gs_len0)))) (fun s H C cl fp => tsv_nil) (fun s H C cl fp => (ev_sub (vPk 3) (vPk 4))) (s0 := s) (H0 := H)) av_nil))) (ssv_one (sv_ret (ev_lc (own := [("gap", 5)]) rfl sc_kinks.nd (iv_seq rfl (vVar 2)) (blkOk_by (by rfl)) (by decide) (by decide) (fun s H C cl fp => (gv_name (i := 5) sc_kinks.nd rfl (by first | exact .inl rfl | exact .inr rfl))) (fun s H C cl fp => tsv_nil) (fun s H C cl fp => (ev_call (ok_plain_row T) (hr.mono (by decide)) (by rfl) T.g_plain_row T.F_plain_row.kp T.b_plain_row (av_cons (ev_call (ok_step_row T) (hr.mono (by decide)) (by rfl) T.g_step_row T.F_step_row.kp T.b_step_row (av_cons (vVar 0) (av_cons (vVar 1) (av_cons (vVar 5) av_nil)))) av_nil))) (s0 := s) (H0 := H)))))))
theorem ok_is_within (T : Tx K mg) : FnP P w K mg base (RR T) 2 T.f_is_within T.d_is_within ["thing", "low", "high"] F_is_within :=
  fn_pl' (pr := [0, 1, 2]) T.F_is_within sc_is_within rfl (by decide) (by decide) (fun cdv A outer s H E hr => (ssv_one (sv_ret (ev_and (ev_call (ok_is_integer T) (hr.mono (by decide)) (by rfl) T.g_is_integer T.F_is_integer.kp T.b_is_integer (av_cons (vVar 0) av_nil)) (ev_one (ev_chain op_le op_le bin_le bin_le (vPk 1) (vPk 0) (vPk 2)))))))
theorem ok_is_lot (T : Tx K mg) : FnP P w K mg base (RR T) 3 T.f_is_lot T.d_is_lot ["thing", "many"] F_is_lot :=
  fn_pl' (pr := [0, 1]) T.F_is_lot sc_is_lot rfl (by decide) (by decide) (fun cdv A outer s H E hr => (ssv_cons (sv_if (Wv.tv (wv_or (tv_not (tv_val (ev_callB (call_isi.or (call_isiT.or call_isiK)) cok_isi (by rfl) T.m_isinstance boot_isinstance (av_cons (vPk 0) (av_cons (vTy .tuple T.m_tuple boot_tuple) av_nil))))) (wv_or1 (tv_not (tv_val (ev_callB (cr_all rfl) cok_all (by rfl) T.m_all boot_all (av_cons (ev_lc (own := [("one", 2)]) rfl sc_is_lot.nd (iv_seq rfl (vVar 0)) (blkOk_by (by rfl)) (by decide) (by decide) (fun s H C cl fp => (gv_name (i := 2) sc_is_lot.nd rfl (by first | exact .inl rfl | exact .inr rfl))) (fun s H C cl fp => tsv_nil) (fun s H C cl fp => (ev_call (ok_is_within T) (hr.mono (by decide)) (by rfl) T.g_is_within T.F_is_within.kp T.b_is_within (av_cons (vVar 2) (av_cons ev_int (av_cons (ev_sub (vPk 1) ev_int) av_nil))))) (s0 := s) (H0 := H)) av_nil))))))) (ssv_one (sv_ret ev_bl)) ssv_nil) (ssv_one (sv_ret (ev_callB (cr_all rfl) cok_all (by rfl) T.m_all boot_all (av_cons (ev_lc (own := [("one", 2), ("other", 3)]) rfl sc_is_lot.nd (iv_zip2 rfl (by rfl) T.m_zip (av_cons (vVar 0) (av_cons (ev_sl rfl (vPk 0) (ov_some ev_int) ov_none) av_nil))) (blkOk_by (by rfl)) (by decide) (by decide) (fun s H C cl fp => (gv_tup (n := 2) rfl rfl (gsv_cons (gv_name (i := 2) sc_is_lot.nd rfl (by first | exact .inl rfl | exact .inr rfl)) (gsv_cons (gv_name (i := 3) sc_is_lot.nd rfl (by first | exact .inl rfl | exact .inr rfl)) gsv_nil)) (gs_lenS (gs_lenS gs_len0)))) (fun s H C cl fp => tsv_nil) (fun s H C cl fp => (ev_cmp op_lt bin_lt (vPk 2) (vPk 3) (nomark _))) (s0 := s) (H0 := H)) av_nil))))))
theorem ok_check_lot (T : Tx K mg) : FnP P w K mg base (RR T) 4 T.f_check_lot T.d_check_lot ["thing", "many"] F_check_lot :=
  fn_pl' (pr := [0, 1]) T.F_check_lot sc_check_lot rfl (by decide) (by decide) (fun cdv A outer s H E hr => (ssv_one (sv_if (tv_not (tv_val (ev_call (ok_is_lot T) (hr.mono (by decide)) (by rfl) T.g_is_lot T.F_is_lot.kp T.b_is_lot (av_cons (vVar 0) (av_cons (vVar 1) av_nil))))) (ssv_one sv_never) ssv_nil)))
theorem ok_made (T : Tx K mg) : FnP P w K mg base (RR T) 3 T.f_made T.d_made ["rows", "shifts"] F_made :=
  fn_pl' (pr := [0, 1]) T.F_made sc_made rfl (by decide) (by decide) (fun cdv A outer s H E hr => (ssv_cons (sv_expr (ev_call (ok_check_makers T) (hr.mono (by decide)) (by rfl) T.g_check_makers T.F_check_makers.kp T.b_check_makers (av_cons (vVar 0) av_nil))) (ssv_cons (sv_if (tv_not (tv_val (ev_call (ok_are_integers T) (hr.mono (by decide)) (by rfl) T.g_are_integers T.F_are_integers.kp T.b_are_integers (av_cons (vVar 1) (av_cons (ev_callB L2.call_len cok_len (by rfl) T.m_len boot_len (av_cons (vPk 0) av_nil)) av_nil))))) (ssv_one sv_never) ssv_nil) (ssv_cons (sv_set (i := 2) sc_made.nd rfl (by first | exact .inl rfl | exact .inr rfl) (by decide) (ev_listZ rfl rfl (by rfl) T.m_list (by rfl) T.m_zip (av_cons (vVar 0) (av_cons (vVar 1) av_nil)))) (ssv_one (sv_ret (ev_callTy call_tuple_of cok_tuple (by rfl) T.m_tuple boot_tuple (av_cons (ev_lc (own := [("at", 3)]) rfl sc_made.nd (iv_range1 (by rfl) T.m_range (ev_callB L2.call_len cok_len (by rfl) T.m_len boot_len (av_cons (ev_ix rfl (vPk 0) ev_int) av_nil))) (blkOk_by (by rfl)) (by decide) (by decide) (fun s H C cl fp => (gv_name (i := 3) sc_made.nd rfl (by first | exact .inl rfl | exact .inr rfl))) (fun s H C cl fp => tsv_nil) (fun s H C cl fp => (ev_callB ((callr_max rfl).or (cr_maxT rfl)) cok_max2 (by rfl) T.m_max boot_max (av_cons (ev_lc (own := [("maker", 4), ("number", 5)]) rfl sc_made.nd (iv_seq rfl (vVar 2)) (blkOk_by (by rfl)) (by decide) (by decide) (fun s H C cl fp => (gv_tup (n := 2) rfl rfl (gsv_cons (gv_name (i := 4) sc_made.nd rfl (by first | exact .inl rfl | exact .inr rfl)) (gsv_cons (gv_name (i := 5) sc_made.nd rfl (by first | exact .inl rfl | exact .inr rfl)) gsv_nil)) (gs_lenS (gs_lenS gs_len0)))) (fun s H C cl fp => tsv_nil) (fun s H C cl fp => (ev_add rfl (ev_ix rfl (vPk 4) (vPk 3)) (vPk 5))) (s0 := s) (H0 := H)) av_nil))) (s0 := s) (H0 := H)) av_nil))))))))
theorem ok_is_in_span (T : Tx K mg) : FnP P w K mg base (RR T) 5 T.f_is_in_span T.d_is_in_span ["rows", "row"] F_is_in_span :=
  fn_pl' (pr := [0, 1]) T.F_is_in_span sc_is_in_span rfl (by decide) (by decide) (fun cdv A outer s H E hr => (ssv_one (sv_ret (ev_cmp (op_eqD (hu64 hr)) bin_eq (ev_call (ok_made T) (hr.mono (by decide)) (by rfl) T.g_made T.F_made.kp T.b_made (av_cons (vVar 0) (av_cons (ev_call (ok_greatest_shifts T) (hr.mono (by decide)) (by rfl) T.g_greatest_shifts T.F_greatest_shifts.kp T.b_greatest_shifts (av_cons (vVar 0) (av_cons (vVar 1) av_nil))) av_nil))) (ev_callTy call_tuple_of cok_tuple (by rfl) T.m_tuple boot_tuple (av_cons (vPk 1) av_nil)) (nomark _)))))
theorem ok_is_inner (T : Tx K mg) : FnP P w K mg base (RR T) 6 T.f_is_inner T.d_is_inner ["rows", "row", "lot"] F_is_inner :=
  fn_pl' (pr := [0, 1, 2]) T.F_is_inner sc_is_inner rfl (by decide) (by decide) (fun cdv A outer s H E hr => (ssv_cons (sv_expr (ev_call (ok_check_like T) (hr.mono (by decide)) (by rfl) T.g_check_like T.F_check_like.kp T.b_check_like (av_cons (vVar 0) (av_cons (vVar 1) av_nil)))) (ssv_cons (sv_expr (ev_call (ok_check_lot T) (hr.mono (by decide)) (by rfl) T.g_check_lot T.F_check_lot.kp T.b_check_lot (av_cons (vVar 2) (av_cons (ev_callB L2.call_len cok_len (by rfl) T.m_len boot_len (av_cons (vPk 0) av_nil)) av_nil)))) (ssv_one (sv_ret (ev_and (ev_cmp (op_neD (hu64 hr)) bin_ne (vPk 2) (ev_tup av_nil) (nomark _)) (ev_one (ev_call (ok_is_in_span T) (hr.mono (by decide)) (by rfl) T.g_is_in_span T.F_is_in_span.kp T.b_is_in_span (av_cons (ev_lc (own := [("place", 3)]) rfl sc_is_inner.nd (iv_seq rfl (vVar 2)) (blkOk_by (by rfl)) (by decide) (by decide) (fun s H C cl fp => (gv_name (i := 3) sc_is_inner.nd rfl (by first | exact .inl rfl | exact .inr rfl))) (fun s H C cl fp => tsv_nil) (fun s H C cl fp => (ev_ix rfl (vPk 0) (vPk 3))) (s0 := s) (H0 := H)) (av_cons (vVar 1) av_nil))))))))))
theorem ok__law_draw (T : Tx K mg) : FnP P w K mg base (RR T) 1 T.f__law_draw T.d__law_draw ["hand", "bound"] F__law_draw :=
  fn_pl' (pr := [0, 1]) T.F__law_draw sc__law_draw rfl (by decide) (by decide) (fun cdv A outer s H E hr => (ssv_cons (sv_if (Wv.tv (wv_and (tv_cmp (op_eqD (hu64 hr)) bin_eq (ev_ix rfl (vPk 0) ev_int) ev_int (nomark _)) (wv_and1 (tv_cmp op_lt bin_lt (ev_ix rfl (vPk 0) ev_int) (ev_callB L2.call_len cok_len (by rfl) T.m_len boot_len (av_cons (ev_ix rfl (vPk 0) ev_int) av_nil)) (nomark _))))) (ssv_cons (sv_set (i := 2) sc__law_draw.nd rfl (by first | exact .inl rfl | exact .inr rfl) (by decide) (ev_ix rfl (ev_ix rfl (vPk 0) ev_int) (ev_ix rfl (vPk 0) ev_int))) (ssv_cons (sv_setIx (i := 0) rfl (by first | exact .inl rfl | exact .inr (.inl rfl) | exact .inr (.inr rfl)) (ev_add rfl (ev_ix rfl (vPk 0) ev_int) ev_int) ev_int) (ssv_cons (sv_setIx (i := 0) rfl (by first | exact .inl rfl | exact .inr (.inl rfl) | exact .inr (.inr rfl)) (ev_mod (ev_callTy call_int1 cok_int (by rfl) T.m_int boot_int (av_cons (ev_add rfl (ev_add rfl (ev_mul rfl (ev_ix rfl (vPk 0) ev_int) ev_int) (vPk 2)) ev_int) av_nil)) ev_int) ev_int) (ssv_one (sv_if (tv_cmp op_ge bin_ge (vPk 2) (ev_pow ev_int ev_int) (nomark _)) (ssv_one (sv_setIx (i := 0) rfl (by first | exact .inl rfl | exact .inr (.inl rfl) | exact .inr (.inr rfl)) (vVar 2) ev_int)) ssv_nil))))) ssv_nil) (ssv_cons (sv_if (tv_cmp op_gt bin_gt (ev_ix rfl (vPk 0) ev_int) ev_int (nomark _)) (ssv_cons (sv_set (i := 3) sc__law_draw.nd rfl (by first | exact .inl rfl | exact .inr rfl) (by decide) (ev_mod (ev_callTy call_int1 cok_int (by rfl) T.m_int boot_int (av_cons (ev_ix rfl (vPk 0) ev_int) av_nil)) (vPk 1))) (ssv_cons (sv_setIx (i := 0) rfl (by first | exact .inl rfl | exact .inr (.inl rfl) | exact .inr (.inr rfl)) (ev_fdiv (ev_ix rfl (vPk 0) ev_int) (vPk 1)) ev_int) (ssv_one (sv_ret (vVar 3))))) ssv_nil) (ssv_cons (sv_setIx (i := 0) rfl (by first | exact .inl rfl | exact .inr (.inl rfl) | exact .inr (.inr rfl)) (ev_add rfl (ev_ix rfl (vPk 0) ev_int) ev_int) ev_int) (ssv_cons (sv_set (i := 4) sc__law_draw.nd rfl (by first | exact .inl rfl | exact .inr rfl) (by decide) (ev_mod (ev_callTy call_int1 cok_int (by rfl) T.m_int boot_int (av_cons (ev_mul rfl (ev_callTy call_int1 cok_int (by rfl) T.m_int boot_int (av_cons (ev_add rfl (ev_ix rfl (vPk 0) ev_int) (ev_mul rfl ev_int (ev_ix rfl (vPk 0) ev_int))) av_nil)) ev_int) av_nil)) ev_int)) (ssv_cons (sv_set (i := 4) sc__law_draw.nd rfl (by first | exact .inl rfl | exact .inr rfl) (by decide) (ev_mod (ev_callTy call_int1 cok_int (by rfl) T.m_int boot_int (av_cons (ev_mul rfl (vPk 4) (ev_add rfl (ev_fdiv (vPk 4) ev_int) ev_int)) av_nil)) ev_int)) (ssv_cons (sv_set (i := 4) sc__law_draw.nd rfl (by first | exact .inl rfl | exact .inr rfl) (by decide) (ev_mod (ev_callTy call_int1 cok_int (by rfl) T.m_int boot_int (av_cons (ev_mul rfl (vPk 4) (ev_add rfl (ev_fdiv (vPk 4) ev_int) ev_int)) av_nil)) ev_int)) (ssv_one (sv_ret (ev_mod (ev_callTy call_int1 cok_int (by rfl) T.m_int boot_int (av_cons (ev_fdiv (vPk 4) ev_int) av_nil)) (vPk 1)))))))))))
theorem ok__law_makers (T : Tx K mg) : FnP P w K mg base (RR T) 2 T.f__law_makers T.d__law_makers ["hand", "wide"] F__law_makers :=
  fn_pl' (pr := [0, 1]) T.F__law_makers sc__law_makers rfl (by decide) (by decide) (fun cdv A outer s H E hr => (ssv_one (sv_ret (ev_callTy call_tuple_of cok_tuple (by rfl) T.m_tuple boot_tuple (av_cons (ev_lc (own := [("a", 2)]) rfl sc__law_makers.nd (iv_range1 (by rfl) T.m_range (ev_add rfl ev_int (ev_call (ok__law_draw T) (hr.mono (by decide)) (by rfl) T.g__law_draw T.F__law_draw.kp T.b__law_draw (av_cons (vBor 0) (av_cons ev_int av_nil))))) (blkOk_by (by rfl)) (by decide) (by decide) (fun s H C cl fp => (gv_name (i := 2) sc__law_makers.nd rfl (by first | exact .inl rfl | exact .inr rfl))) (fun s H C cl fp => tsv_nil) (fun s H C cl fp => (ev_callTy call_tuple_of cok_tuple (by rfl) T.m_tuple boot_tuple (av_cons (ev_lc (own := [("b", 3)]) rfl sc__law_makers.nd (iv_range1 (by rfl) T.m_range (vPk 1)) (blkOk_by (by rfl)) (by decide) (by decide) (fun s H C cl fp => (gv_name (i := 3) sc__law_makers.nd rfl (by first | exact .inl rfl | exact .inr rfl))) (fun s H C cl fp => tsv_nil) (fun s H C cl fp => (ev_sub (ev_call (ok__law_draw T) (hr.mono (by decide)) (by rfl) T.g__law_draw T.F__law_draw.kp T.b__law_draw (av_cons (vBor 0) (av_cons ev_int av_nil))) ev_int)) (s0 := s) (H0 := H)) av_nil))) (s0 := s) (H0 := H)) av_nil)))))
theorem ok__law_made (T : Tx K mg) : FnP P w K mg base (RR T) 1 T.f__law_made T.d__law_made ["makers", "shifts"] F__law_made :=
  fn_pl' (pr := [0, 1]) T.F__law_made sc__law_made rfl (by decide) (by decide) (fun cdv A outer s H E hr => (ssv_cons (sv_set (i := 2) sc__law_made.nd rfl (by first | exact .inl rfl | exact .inr rfl) (by decide) (ev_lst av_nil)) (ssv_cons (sv_for PassesOwn.never rfl (iv_range1 (by rfl) T.m_range (ev_callB L2.call_len cok_len (by rfl) T.m_len boot_len (av_cons (ev_ix rfl (vPk 0) ev_int) av_nil))) (gv_name (i := 3) sc__law_made.nd rfl (by first | exact .inl rfl | exact .inr rfl)) (ssv_one (sv_expr (ev_append (i := 2) rfl (by first | exact .inl rfl | exact .inr (.inl rfl) | exact .inr (.inr rfl)) (ev_callB ((callr_max rfl).or (cr_maxT rfl)) cok_max2 (by rfl) T.m_max boot_max (av_cons (ev_lc (own := [("maker", 4), ("shift", 5)]) rfl sc__law_made.nd (iv_zip2 rfl (by rfl) T.m_zip (av_cons (vVar 0) (av_cons (vVar 1) av_nil))) (blkOk_by (by rfl)) (by decide) (by decide) (fun s H C cl fp => (gv_tup (n := 2) rfl rfl (gsv_cons (gv_name (i := 4) sc__law_made.nd rfl (by first | exact .inl rfl | exact .inr rfl)) (gsv_cons (gv_name (i := 5) sc__law_made.nd rfl (by first | exact .inl rfl | exact .inr rfl)) gsv_nil)) (gs_lenS (gs_lenS gs_len0)))) (fun s H C cl fp => tsv_nil) (fun s H C cl fp => (ev_add rfl (ev_ix rfl (vPk 4) (vPk 3)) (vPk 5))) (s0 := s) (H0 := H)) av_nil))))) (by decide)) (ssv_one (sv_ret (ev_callTy call_tuple_of cok_tuple (by rfl) T.m_tuple boot_tuple (av_cons (vPk 2) av_nil)))))))
theorem ok__law_shifts (T : Tx K mg) : FnP P w K mg base (RR T) 1 T.f__law_shifts T.d__law_shifts ["makers", "row"] F__law_shifts :=
  fn_pl' (pr := [0, 1]) T.F__law_shifts sc__law_shifts rfl (by decide) (by decide) (fun cdv A outer s H E hr => (ssv_one (sv_ret (ev_callTy call_tuple_of cok_tuple (by rfl) T.m_tuple boot_tuple (av_cons (ev_lc (own := [("maker", 2)]) rfl sc__law_shifts.nd (iv_seq rfl (vVar 0)) (blkOk_by (by rfl)) (by decide) (by decide) (fun s H C cl fp => (gv_name (i := 2) sc__law_shifts.nd rfl (by first | exact .inl rfl | exact .inr rfl))) (fun s H C cl fp => tsv_nil) (fun s H C cl fp => (ev_callB ((callr_min rfl).or (cr_minT rfl)) cok_min2 (by rfl) T.m_min boot_min (av_cons (ev_lc (own := [("a", 3), ("b", 4)]) rfl sc__law_shifts.nd (iv_zip2 rfl (by rfl) T.m_zip (av_cons (vVar 2) (av_cons (vVar 1) av_nil))) (blkOk_by (by rfl)) (by decide) (by decide) (fun s H C cl fp => (gv_tup (n := 2) rfl rfl (gsv_cons (gv_name (i := 3) sc__law_shifts.nd rfl (by first | exact .inl rfl | exact .inr rfl)) (gsv_cons (gv_name (i := 4) sc__law_shifts.nd rfl (by first | exact .inl rfl | exact .inr rfl)) gsv_nil)) (gs_lenS (gs_lenS gs_len0)))) (fun s H C cl fp => tsv_nil) (fun s H C cl fp => (ev_sub (vPk 4) (vPk 3))) (s0 := s) (H0 := H)) av_nil))) (s0 := s) (H0 := H)) av_nil)))))
theorem ok__law_near (T : Tx K mg) : FnP P w K mg base (RR T) 2 T.f__law_near T.d__law_near ["makers", "row"] F__law_near :=
  fn_pl' (pr := [0, 1]) T.F__law_near sc__law_near rfl (by decide) (by decide) (fun cdv A outer s H E hr => (ssv_one (sv_ret (ev_call (ok__law_made T) (hr.mono (by decide)) (by rfl) T.g__law_made T.F__law_made.kp T.b__law_made (av_cons (vVar 0) (av_cons (ev_call (ok__law_shifts T) (hr.mono (by decide)) (by rfl) T.g__law_shifts T.F__law_shifts.kp T.b__law_shifts (av_cons (vVar 0) (av_cons (vVar 1) av_nil))) av_nil))))))
theorem ok_cut_by (T : Tx K mg) : FnP P w K mg base (RR T) 5 T.f_cut_by T.d_cut_by ["rows", "row"] F_cut_by :=
  fn_pl' (pr := [0, 1]) T.F_cut_by sc_cut_by rfl (by decide) (by decide) (fun cdv A outer s H E hr => (ssv_cons (sv_par (i := 2) (j := 3) rfl sc_cut_by.nd rfl rfl (by decide) rfl rfl (by decide) (by decide) (av_cons (ev_call (ok_greatest_shifts T) (hr.mono (by decide)) (by rfl) T.g_greatest_shifts T.F_greatest_shifts.kp T.b_greatest_shifts (av_cons (vVar 0) (av_cons (vVar 1) av_nil))) (av_cons (ev_lst av_nil) av_nil)) (by rfl)) (ssv_cons (sv_for PassesOwn.never rfl (iv_zip2 rfl (by rfl) T.m_zip (av_cons (vVar 0) (av_cons (vVar 2) av_nil))) (gv_tup (n := 2) rfl rfl (gsv_cons (gv_name (i := 4) sc_cut_by.nd rfl (by first | exact .inl rfl | exact .inr rfl)) (gsv_cons (gv_name (i := 5) sc_cut_by.nd rfl (by first | exact .inl rfl | exact .inr rfl)) gsv_nil)) (gs_lenS (gs_lenS gs_len0))) (ssv_one (sv_expr (ev_append (i := 3) rfl (by first | exact .inl rfl | exact .inr (.inl rfl) | exact .inr (.inr rfl)) (ev_callTy call_tuple_of cok_tuple (by rfl) T.m_tuple boot_tuple (av_cons (ev_lc (own := [("at", 6), ("goal", 7)]) rfl sc_cut_by.nd (iv_enum rfl (by rfl) T.m_enumerate (av_cons (vVar 1) av_nil)) (blkOk_by (by rfl)) (by decide) (by decide) (fun s H C cl fp => (gv_tup (n := 2) rfl rfl (gsv_cons (gv_name (i := 6) sc_cut_by.nd rfl (by first | exact .inl rfl | exact .inr rfl)) (gsv_cons (gv_name (i := 7) sc_cut_by.nd rfl (by first | exact .inl rfl | exact .inr rfl)) gsv_nil)) (gs_lenS (gs_lenS gs_len0)))) (fun s H C cl fp => (tsv_one (tv_cmp (op_eqD (hu64 hr)) bin_eq (ev_add rfl (ev_ix rfl (vPk 4) (vPk 6)) (vPk 5)) (vPk 7) (nomark _)))) (fun s H C cl fp => (vVar 6)) (s0 := s) (H0 := H)) av_nil))))) (by decide)) (ssv_one (sv_ret (vMv 3))))))
theorem ok__law_any (T : Tx K mg) : FnP P w K mg base (RR T) 2 T.f__law_any T.d__law_any ["hand", "things"] F__law_any :=
  fn_pl' (pr := [0, 1]) T.F__law_any sc__law_any rfl (by decide) (by decide) (fun cdv A outer s H E hr => (ssv_one (sv_ret (ev_ix rfl (vPk 1) (ev_call (ok__law_draw T) (hr.mono (by decide)) (by rfl) T.g__law_draw T.F__law_draw.kp T.b__law_draw (av_cons (vBor 0) (av_cons (ev_callB L2.call_len cok_len (by rfl) T.m_len boot_len (av_cons (vPk 1) av_nil)) av_nil)))))))
theorem ok__law_lots (T : Tx K mg) : FnP P w K mg base (RR T) 1 T.f__law_lots T.d__law_lots ["many"] F__law_lots :=
  fn_pl' (pr := [0]) T.F__law_lots sc__law_lots rfl (by decide) (by decide) (fun cdv A outer s H E hr => (ssv_cons (sv_set (i := 1) sc__law_lots.nd rfl (by first | exact .inl rfl | exact .inr rfl) (by decide) (ev_lst (av_cons (ev_tup av_nil) av_nil))) (ssv_cons (sv_for PassesOwn.never rfl (iv_range1 (by rfl) T.m_range (vPk 0)) (gv_name (i := 2) sc__law_lots.nd rfl (by first | exact .inl rfl | exact .inr rfl)) (ssv_one (sv_set (i := 1) sc__law_lots.nd rfl (by first | exact .inl rfl | exact .inr rfl) (by decide) (ev_add rfl (vPk 1) (ev_lc (own := [("lot", 3)]) rfl sc__law_lots.nd (iv_seq rfl (vVar 1)) (blkOk_by (by rfl)) (by decide) (by decide) (fun s H C cl fp => (gv_name (i := 3) sc__law_lots.nd rfl (by first | exact .inl rfl | exact .inr rfl))) (fun s H C cl fp => tsv_nil) (fun s H C cl fp => (ev_add rfl (vPk 3) (ev_tup (av_cons (vVar 2) av_nil)))) (s0 := s) (H0 := H))))) (by decide)) (ssv_one (sv_ret (ev_callB ((cr_sortedD (hu64 hr)).or (cr_sortE (hu64 hr))) cok_sorted2 (by rfl) T.m_sorted boot_sorted (av_cons (vPk 1) av_nil)))))))
theorem ok_law (T : Tx K mg) : FnP P w K mg base (RR T) 7 T.f_law T.d_law ["script"] F_law :=
  fn_pl' (pr := [0]) T.F_law sc_law rfl (by decide) (by decide) (fun cdv A outer s H E hr => (ssv_cons (sv_set (i := 1) sc_law.nd rfl (by first | exact .inl rfl | exact .inr rfl) (by decide) (ev_call (ok__law_hand T) (hr.mono (by decide)) (by rfl) T.g__law_hand T.F__law_hand.kp T.b__law_hand (av_cons (vVar 0) av_nil))) (ssv_cons (sv_set (i := 2) sc_law.nd rfl (by first | exact .inl rfl | exact .inr rfl) (by decide) (ev_tup (av_cons (ev_tup (av_cons ev_int (av_cons ev_int av_nil))) (av_cons (ev_tup (av_cons ev_int (av_cons ev_int av_nil))) av_nil)))) (ssv_cons (sv_if (Wv.tv (wv_or (tv_cmp (op_neD (hu64 hr)) bin_ne (ev_callTy call_list_of cok_list (by rfl) T.m_list boot_list (av_cons (ev_call (ok_sectors T) (hr.mono (by decide)) (by rfl) T.g_sectors T.F_sectors.kp T.b_sectors (av_cons (vVar 2) (av_cons (ev_tup (av_cons ev_int (av_cons ev_int av_nil))) av_nil))) av_nil)) (ev_lst (av_cons (ev_tup (av_cons ev_int av_nil)) (av_cons (ev_tup (av_cons ev_int av_nil)) av_nil))) (nomark _)) (wv_or1 (tv_cmp (op_neD (hu64 hr)) bin_ne (ev_call (ok_far T) (hr.mono (by decide)) (by rfl) T.g_far T.F_far.kp T.b_far (av_cons (ev_tup (av_cons ev_int (av_cons ev_int av_nil))) (av_cons (ev_tup (av_cons ev_int (av_cons ev_int av_nil))) av_nil))) ev_int (nomark _))))) (ssv_one (sv_ret ev_bl)) ssv_nil) (ssv_cons (sv_if (tv_cmp (op_neD (hu64 hr)) bin_ne (ev_call (ok_step_row T) (hr.mono (by decide)) (by rfl) T.g_step_row T.F_step_row.kp T.b_step_row (av_cons (ev_tup (av_cons ev_int (av_cons ev_int av_nil))) (av_cons (ev_tup (av_cons ev_int (av_cons ev_int av_nil))) (av_cons ev_int av_nil)))) (ev_tup (av_cons ev_int (av_cons ev_int av_nil))) (nomark _)) (ssv_one (sv_ret ev_bl)) ssv_nil) (ssv_cons (sv_if (Wv.tv (wv_or (tv_cmp (op_neD (hu64 hr)) bin_ne (ev_callB ((cr_sortedD (hu64 hr)).or (cr_sortE (hu64 hr))) cok_sorted2 (by rfl) T.m_sorted boot_sorted (av_cons (ev_call (ok_kinks T) (hr.mono (by decide)) (by rfl) T.g_kinks T.F_kinks.kp T.b_kinks (av_cons (ev_tup (av_cons ev_int (av_cons ev_int av_nil))) (av_cons (ev_tup (av_cons ev_int (av_cons ev_int av_nil))) av_nil))) av_nil)) (ev_lst (av_cons (ev_tup (av_cons ev_int (av_cons (ev_neg ev_int) av_nil))) (av_cons (ev_tup (av_cons ev_int (av_cons ev_int av_nil))) av_nil))) (nomark _)) (wv_or1 (tv_cmp op_isN2 bin_isN2 (ev_call (ok_is_inner T) (hr.mono (by decide)) (by rfl) T.g_is_inner T.F_is_inner.kp T.b_is_inner (av_cons (vVar 2) (av_cons (ev_tup (av_cons ev_int (av_cons ev_int av_nil))) (av_cons (ev_tup (av_cons ev_int av_nil)) av_nil)))) ev_bl (nomark _))))) (ssv_one (sv_ret ev_bl)) ssv_nil) (ssv_cons (sv_for PassesOwn.never rfl (iv_range1 (by rfl) T.m_range ev_int) (gv_name (i := 3) sc_law.nd rfl (by first | exact .inl rfl | exact .inr rfl)) (ssv_cons (sv_set (i := 4) sc_law.nd rfl (by first | exact .inl rfl | exact .inr rfl) (by decide) (ev_add rfl ev_int (ev_call (ok__law_draw T) (hr.mono (by decide)) (by rfl) T.g__law_draw T.F__law_draw.kp T.b__law_draw (av_cons (vBor 1) (av_cons ev_int av_nil))))) (ssv_cons (sv_set (i := 5) sc_law.nd rfl (by first | exact .inl rfl | exact .inr rfl) (by decide) (ev_call (ok__law_makers T) (hr.mono (by decide)) (by rfl) T.g__law_makers T.F__law_makers.kp T.b__law_makers (av_cons (vBor 1) (av_cons (vVar 4) av_nil)))) (ssv_cons (sv_set (i := 6) sc_law.nd rfl (by first | exact .inl rfl | exact .inr rfl) (by decide) (ev_callTy call_tuple_of cok_tuple (by rfl) T.m_tuple boot_tuple (av_cons (ev_lc (own := [("at", 9)]) rfl sc_law.nd (iv_range1 (by rfl) T.m_range (vPk 4)) (blkOk_by (by rfl)) (by decide) (by decide) (fun s H C cl fp => (gv_name (i := 9) sc_law.nd rfl (by first | exact .inl rfl | exact .inr rfl))) (fun s H C cl fp => tsv_nil) (fun s H C cl fp => (ev_sub (ev_call (ok__law_draw T) (hr.mono (by decide)) (by rfl) T.g__law_draw T.F__law_draw.kp T.b__law_draw (av_cons (vBor 1) (av_cons ev_int av_nil))) ev_int)) (s0 := s) (H0 := H)) av_nil))) (ssv_cons (sv_set (i := 6) sc_law.nd rfl (by first | exact .inl rfl | exact .inr rfl) (by decide) (ev_if (tv_cmp (op_eqD (hu64 hr)) bin_eq (ev_call (ok__law_draw T) (hr.mono (by decide)) (by rfl) T.g__law_draw T.F__law_draw.kp T.b__law_draw (av_cons (vBor 1) (av_cons ev_int av_nil))) ev_int (nomark _)) (ev_call (ok__law_near T) (hr.mono (by decide)) (by rfl) T.g__law_near T.F__law_near.kp T.b__law_near (av_cons (vVar 5) (av_cons (vVar 6) av_nil))) (vVar 6))) (ssv_cons (sv_set (i := 7) sc_law.nd rfl (by first | exact .inl rfl | exact .inr rfl) (by decide) (ev_call (ok__law_shifts T) (hr.mono (by decide)) (by rfl) T.g__law_shifts T.F__law_shifts.kp T.b__law_shifts (av_cons (vVar 5) (av_cons (vVar 6) av_nil)))) (ssv_cons (sv_set (i := 8) sc_law.nd rfl (by first | exact .inl rfl | exact .inr rfl) (by decide) (ev_lst av_nil)) (ssv_cons (sv_for PassesOwn.never rfl (iv_range1 (by rfl) T.m_range (vPk 4)) (gv_name (i := 9) sc_law.nd rfl (by first | exact .inl rfl | exact .inr rfl)) (ssv_one (sv_expr (ev_append (i := 8) rfl (by first | exact .inl rfl | exact .inr (.inl rfl) | exact .inr (.inr rfl)) (ev_callTy call_tuple_of cok_tuple (by rfl) T.m_tuple boot_tuple (av_cons (ev_lc (own := [("a", 18), ("maker", 19)]) rfl sc_law.nd (iv_enum rfl (by rfl) T.m_enumerate (av_cons (vVar 5) av_nil)) (blkOk_by (by rfl)) (by decide) (by decide) (fun s H C cl fp => (gv_tup (n := 2) rfl rfl (gsv_cons (gv_name (i := 18) sc_law.nd rfl (by first | exact .inl rfl | exact .inr rfl)) (gsv_cons (gv_name (i := 19) sc_law.nd rfl (by first | exact .inl rfl | exact .inr rfl)) gsv_nil)) (gs_lenS (gs_lenS gs_len0)))) (fun s H C cl fp => (tsv_one (tv_cmp (op_eqD (hu64 hr)) bin_eq (ev_add rfl (ev_ix rfl (vPk 19) (vPk 9)) (ev_ix rfl (vPk 7) (vPk 18))) (ev_ix rfl (vPk 6) (vPk 9)) (nomark _)))) (fun s H C cl fp => (vVar 18)) (s0 := s) (H0 := H)) av_nil))))) (by decide)) (ssv_cons (sv_if (tv_cmp (op_neD (hu64 hr)) bin_ne (ev_callTy call_list_of cok_list (by rfl) T.m_list boot_list (av_cons (ev_call (ok_sectors T) (hr.mono (by decide)) (by rfl) T.g_sectors T.F_sectors.kp T.b_sectors (av_cons (vVar 5) (av_cons (vVar 6) av_nil))) av_nil)) (vPk 8) (nomark _)) (ssv_one (sv_ret ev_bl)) ssv_nil) (ssv_cons (sv_setLc (own := [("a", 18)]) rfl sc_law.nd (i := 10) rfl rfl (by decide) (by rfl) (iv_range1 (by rfl) T.m_range (ev_callB L2.call_len cok_len (by rfl) T.m_len boot_len (av_cons (vPk 5) av_nil))) (blkOk_by (by rfl)) (by decide) (by decide) (fun s H C cl fp => (gv_name (i := 18) sc_law.nd rfl (by first | exact .inl rfl | exact .inr rfl))) (fun s H C cl fp => tsv_nil) (fun s H C cl fp => (ev_callTy call_tuple_of cok_tuple (by rfl) T.m_tuple boot_tuple (av_cons (ev_lc (own := [("at", 9)]) rfl sc_law.nd (iv_range1 (by rfl) T.m_range (vPk 4)) (blkOk_by (by rfl)) (by decide) (by decide) (fun s H C cl fp => (gv_name (i := 9) sc_law.nd rfl (by first | exact .inl rfl | exact .inr rfl))) (fun s H C cl fp => (tsv_one (tv_cmp (opr_in (hu65 hr)) bin_in (vPk 18) (ev_ix rfl (vPk 8) (vPk 9)) rfl))) (fun s H C cl fp => (vVar 9)) (s0 := s) (H0 := H)) av_nil))) (s0 := s) (H0 := H)) (ssv_cons (sv_if (Wv.tv (wv_or (tv_cmp (op_neD (hu64 hr)) bin_ne (ev_callTy call_list_of cok_list (by rfl) T.m_list boot_list (av_cons (ev_call (ok_cut_by T) (hr.mono (by decide)) (by rfl) T.g_cut_by T.F_cut_by.kp T.b_cut_by (av_cons (vVar 5) (av_cons (vVar 6) av_nil))) av_nil)) (vPk 10) (nomark _)) (wv_or1 (tv_not (tv_val (ev_callB (cr_all rfl) cok_all (by rfl) T.m_all boot_all (av_cons (ev_lc (own := [("lot", 11)]) rfl sc_law.nd (iv_seq rfl (vVar 10)) (blkOk_by (by rfl)) (by decide) (by decide) (fun s H C cl fp => (gv_name (i := 11) sc_law.nd rfl (by first | exact .inl rfl | exact .inr rfl))) (fun s H C cl fp => tsv_nil) (fun s H C cl fp => (ev_cmp (op_neD (hu64 hr)) bin_ne (vPk 11) (ev_tup av_nil) (nomark _))) (s0 := s) (H0 := H)) av_nil))))))) (ssv_one (sv_ret ev_bl)) ssv_nil) (ssv_cons (sv_if (tv_cmp (op_neD (hu64 hr)) bin_ne (ev_call (ok_is_in_span T) (hr.mono (by decide)) (by rfl) T.g_is_in_span T.F_is_in_span.kp T.b_is_in_span (av_cons (vVar 5) (av_cons (vVar 6) av_nil))) (ev_callB (cr_all rfl) cok_all (by rfl) T.m_all boot_all (av_cons (ev_lc (own := [("lot", 11)]) rfl sc_law.nd (iv_seq rfl (vVar 8)) (blkOk_by (by rfl)) (by decide) (by decide) (fun s H C cl fp => (gv_name (i := 11) sc_law.nd rfl (by first | exact .inl rfl | exact .inr rfl))) (fun s H C cl fp => tsv_nil) (fun s H C cl fp => (ev_cmp (op_neD (hu64 hr)) bin_ne (vPk 11) (ev_tup av_nil) (nomark _))) (s0 := s) (H0 := H)) av_nil)) (nomark _)) (ssv_one (sv_ret ev_bl)) ssv_nil) (ssv_cons (sv_set (i := 11) sc_law.nd rfl (by first | exact .inl rfl | exact .inr rfl) (by decide) (ev_call (ok__law_any T) (hr.mono (by decide)) (by rfl) T.g__law_any T.F__law_any.kp T.b__law_any (av_cons (vBor 1) (av_cons (ev_lc (own := [("lot", 11)]) rfl sc_law.nd (iv_seq rfl (ev_call (ok__law_lots T) (hr.mono (by decide)) (by rfl) T.g__law_lots T.F__law_lots.kp T.b__law_lots (av_cons (ev_callB L2.call_len cok_len (by rfl) T.m_len boot_len (av_cons (vPk 5) av_nil)) av_nil))) (blkOk_by (by rfl)) (by decide) (by decide) (fun s H C cl fp => (gv_name (i := 11) sc_law.nd rfl (by first | exact .inl rfl | exact .inr rfl))) (fun s H C cl fp => (tsv_one (tv_cmp (op_neD (hu64 hr)) bin_ne (vPk 11) (ev_tup av_nil) (nomark _)))) (fun s H C cl fp => (vVar 11)) (s0 := s) (H0 := H)) av_nil)))) (ssv_cons (sv_setLc (own := [("a", 18)]) rfl sc_law.nd (i := 12) rfl rfl (by decide) (by rfl) (iv_seq rfl (vVar 11)) (blkOk_by (by rfl)) (by decide) (by decide) (fun s H C cl fp => (gv_name (i := 18) sc_law.nd rfl (by first | exact .inl rfl | exact .inr rfl))) (fun s H C cl fp => tsv_nil) (fun s H C cl fp => (ev_ix rfl (vPk 5) (vPk 18))) (s0 := s) (H0 := H)) (ssv_cons (sv_if (tv_cmp (op_neD (hu64 hr)) bin_ne (ev_callB cr_reprB cok_repr (by rfl) T.m_repr boot_repr (av_cons (ev_call (ok_is_inner T) (hr.mono (by decide)) (by rfl) T.g_is_inner T.F_is_inner.kp T.b_is_inner (av_cons (vVar 5) (av_cons (vVar 6) (av_cons (vVar 11) av_nil)))) av_nil)) (ev_callB cr_reprB cok_repr (by rfl) T.m_repr boot_repr (av_cons (ev_cmp (op_eqD (hu64 hr)) bin_eq (ev_call (ok__law_near T) (hr.mono (by decide)) (by rfl) T.g__law_near T.F__law_near.kp T.b__law_near (av_cons (vVar 12) (av_cons (vVar 6) av_nil))) (vPk 6) (nomark _)) av_nil)) (nomark _)) (ssv_one (sv_ret ev_bl)) ssv_nil) (ssv_cons (sv_parC (i := 13) (j := 14) rfl sc_law.nd rfl rfl (by first | exact .inl rfl | exact .inr rfl) (by first | exact .inl rfl | exact .inr rfl) (by decide) (by decide) (av_cons (ev_call (ok__law_any T) (hr.mono (by decide)) (by rfl) T.g__law_any T.F__law_any.kp T.b__law_any (av_cons (vBor 1) (av_cons (vVar 5) av_nil))) (av_cons (ev_callTy call_tuple_of cok_tuple (by rfl) T.m_tuple boot_tuple (av_cons (ev_lc (own := [("at", 9)]) rfl sc_law.nd (iv_range1 (by rfl) T.m_range (vPk 4)) (blkOk_by (by rfl)) (by decide) (by decide) (fun s H C cl fp => (gv_name (i := 9) sc_law.nd rfl (by first | exact .inl rfl | exact .inr rfl))) (fun s H C cl fp => tsv_nil) (fun s H C cl fp => (ev_sub (ev_call (ok__law_draw T) (hr.mono (by decide)) (by rfl) T.g__law_draw T.F__law_draw.kp T.b__law_draw (av_cons (vBor 1) (av_cons ev_int av_nil))) ev_int)) (s0 := s) (H0 := H)) av_nil)) av_nil))) (ssv_cons (sv_setLc (own := [("a", 18), ("b", 20)]) rfl sc_law.nd (i := 15) rfl rfl (by decide) (by rfl) (iv_zip2 rfl (by rfl) T.m_zip (av_cons (vVar 13) (av_cons (vVar 14) av_nil))) (blkOk_by (by rfl)) (by decide) (by decide) (fun s H C cl fp => (gv_tup (n := 2) rfl rfl (gsv_cons (gv_name (i := 18) sc_law.nd rfl (by first | exact .inl rfl | exact .inr rfl)) (gsv_cons (gv_name (i := 20) sc_law.nd rfl (by first | exact .inl rfl | exact .inr rfl)) gsv_nil)) (gs_lenS (gs_lenS gs_len0)))) (fun s H C cl fp => tsv_nil) (fun s H C cl fp => (ev_sub (vPk 18) (vPk 20))) (s0 := s) (H0 := H)) (ssv_cons (sv_if (Wv.tv (wv_or (tv_cmp (op_neD (hu64 hr)) bin_ne (ev_call (ok_far T) (hr.mono (by decide)) (by rfl) T.g_far T.F_far.kp T.b_far (av_cons (vVar 13) (av_cons (vVar 14) av_nil))) (ev_sub (ev_callB ((callr_max rfl).or (cr_maxT rfl)) cok_max2 (by rfl) T.m_max boot_max (av_cons (vPk 15) av_nil)) (ev_callB ((callr_min rfl).or (cr_minT rfl)) cok_min2 (by rfl) T.m_min boot_min (av_cons (vPk 15) av_nil))) (nomark _)) (wv_or1 (tv_cmp (op_neD (hu64 hr)) bin_ne (ev_call (ok_far T) (hr.mono (by decide)) (by rfl) T.g_far T.F_far.kp T.b_far (av_cons (vVar 14) (av_cons (vVar 13) av_nil))) (ev_call (ok_far T) (hr.mono (by decide)) (by rfl) T.g_far T.F_far.kp T.b_far (av_cons (vVar 13) (av_cons (vVar 14) av_nil))) (nomark _))))) (ssv_one (sv_ret ev_bl)) ssv_nil) (ssv_cons (sv_set (i := 16) sc_law.nd rfl (by first | exact .inl rfl | exact .inr rfl) (by decide) (ev_sub (ev_call (ok__law_draw T) (hr.mono (by decide)) (by rfl) T.g__law_draw T.F__law_draw.kp T.b__law_draw (av_cons (vBor 1) (av_cons ev_int av_nil))) ev_int)) (ssv_cons (sv_if (tv_cmp (op_neD (hu64 hr)) bin_ne (ev_call (ok_step_row T) (hr.mono (by decide)) (by rfl) T.g_step_row T.F_step_row.kp T.b_step_row (av_cons (vVar 13) (av_cons (vVar 14) (av_cons (vVar 16) av_nil)))) (ev_callTy call_tuple_of cok_tuple (by rfl) T.m_tuple boot_tuple (av_cons (ev_lc (own := [("a", 18), ("b", 20)]) rfl sc_law.nd (iv_zip2 rfl (by rfl) T.m_zip (av_cons (vVar 13) (av_cons (vVar 14) av_nil))) (blkOk_by (by rfl)) (by decide) (by decide) (fun s H C cl fp => (gv_tup (n := 2) rfl rfl (gsv_cons (gv_name (i := 18) sc_law.nd rfl (by first | exact .inl rfl | exact .inr rfl)) (gsv_cons (gv_name (i := 20) sc_law.nd rfl (by first | exact .inl rfl | exact .inr rfl)) gsv_nil)) (gs_lenS (gs_lenS gs_len0)))) (fun s H C cl fp => tsv_nil) (fun s H C cl fp => (ev_callB ((callr_max rfl).or (cr_maxT rfl)) cok_max2 (by rfl) T.m_max boot_max (av_cons (vPk 18) (av_cons (ev_add rfl (vPk 20) (vPk 16)) av_nil)))) (s0 := s) (H0 := H)) av_nil)) (nomark _)) (ssv_one (sv_ret ev_bl)) ssv_nil) (ssv_cons (sv_set (i := 17) sc_law.nd rfl (by first | exact .inl rfl | exact .inr rfl) (by decide) (ev_lst av_nil)) (ssv_cons (sv_for PassesOwn.never rfl (iv_seq rfl (ev_call2 (cr_sortAny rfl (hu64 hr)) (cr_setAny rfl (hu64 hr)) cok_SS (by rfl) T.m_sorted boot_sorted (by rfl) T.m_set PyProof.Rows.boot_set (av_cons (vPk 15) av_nil))) (gv_name (i := 16) sc_law.nd rfl (by first | exact .inl rfl | exact .inr rfl)) (ssv_one (sv_expr (ev_append (i := 17) rfl (by first | exact .inl rfl | exact .inr (.inl rfl) | exact .inr (.inr rfl)) (ev_call (ok_plain_row T) (hr.mono (by decide)) (by rfl) T.g_plain_row T.F_plain_row.kp T.b_plain_row (av_cons (ev_callTy call_tuple_of cok_tuple (by rfl) T.m_tuple boot_tuple (av_cons (ev_lc (own := [("a", 18), ("b", 20)]) rfl sc_law.nd (iv_zip2 rfl (by rfl) T.m_zip (av_cons (vVar 13) (av_cons (vVar 14) av_nil))) (blkOk_by (by rfl)) (by decide) (by decide) (fun s H C cl fp => (gv_tup (n := 2) rfl rfl (gsv_cons (gv_name (i := 18) sc_law.nd rfl (by first | exact .inl rfl | exact .inr rfl)) (gsv_cons (gv_name (i := 20) sc_law.nd rfl (by first | exact .inl rfl | exact .inr rfl)) gsv_nil)) (gs_lenS (gs_lenS gs_len0)))) (fun s H C cl fp => tsv_nil) (fun s H C cl fp => (ev_callB ((callr_max rfl).or (cr_maxT rfl)) cok_max2 (by rfl) T.m_max boot_max (av_cons (vPk 18) (av_cons (ev_add rfl (vPk 20) (vPk 16)) av_nil)))) (s0 := s) (H0 := H)) av_nil)) av_nil))))) (by decide)) (ssv_cons (sv_if (tv_cmp (op_neD (hu64 hr)) bin_ne (ev_callB ((cr_sortedD (hu64 hr)).or (cr_sortE (hu64 hr))) cok_sorted2 (by rfl) T.m_sorted boot_sorted (av_cons (ev_call (ok_kinks T) (hr.mono (by decide)) (by rfl) T.g_kinks T.F_kinks.kp T.b_kinks (av_cons (vVar 13) (av_cons (vVar 14) av_nil))) av_nil)) (ev_callB ((cr_sortedD (hu64 hr)).or (cr_sortE (hu64 hr))) cok_sorted2 (by rfl) T.m_sorted boot_sorted (av_cons (vPk 17) av_nil)) (nomark _)) (ssv_one (sv_ret ev_bl)) ssv_nil) (ssv_cons (sv_if (tv_not (tv_val (ev_callB (cr_all rfl) cok_all (by rfl) T.m_all boot_all (av_cons (ev_lc (own := [("row_of", 21)]) rfl sc_law.nd (iv_seq rfl (vVar 17)) (blkOk_by (by rfl)) (by decide) (by decide) (fun s H C cl fp => (gv_name (i := 21) sc_law.nd rfl (by first | exact .inl rfl | exact .inr rfl))) (fun s H C cl fp => tsv_nil) (fun s H C cl fp => (ev_call (ok_is_in_span T) (hr.mono (by decide)) (by rfl) T.g_is_in_span T.F_is_in_span.kp T.b_is_in_span (av_cons (ev_lst (av_cons (vVar 13) (av_cons (vVar 14) av_nil))) (av_cons (vVar 21) av_nil)))) (s0 := s) (H0 := H)) av_nil)))) (ssv_one (sv_ret ev_bl)) ssv_nil) (ssv_one (sv_if (Wv.tv (wv_or (tv_cmp (op_neD (hu64 hr)) bin_ne (ev_ix rfl (vPk 17) ev_int) (ev_call (ok_plain_row T) (hr.mono (by decide)) (by rfl) T.g_plain_row T.F_plain_row.kp T.b_plain_row (av_cons (vVar 13) av_nil)) (nomark _)) (wv_or1 (tv_cmp (op_neD (hu64 hr)) bin_ne (ev_ix rfl (vPk 17) (ev_neg ev_int)) (ev_call (ok_plain_row T) (hr.mono (by decide)) (by rfl) T.g_plain_row T.F_plain_row.kp T.b_plain_row (av_cons (vVar 14) av_nil)) (nomark _))))) (ssv_one (sv_ret ev_bl)) ssv_nil))))))))))))))))))))))))) (by decide)) (ssv_one (sv_ret ev_bl)))))))))
end
theorem all_mk (hlaw : ∀ ns : List Int, ns.length ≤ 63 → ∃ as2, F_law [.fz (.scr (Ints ns))] = some (.fz (.bl true), as2)) {P : Program} {w : World} {K : PySem.W.Frag} {h : Heap} {mg : Str → Option Value} {fa : Addr} (X : K.In h) (G : h.Ns mainGlobals mg) (hfa : mg "law" = some (.ref fa))
    {f0 f1 f2 f3 f4 f5 f6 f7 f8 f9 f10 f11 f12 f13 f14 f15 f16 f17 f18 f19 f20 f21 f22 f23 f24 f25 f26  : Addr} {od0 an0 od1 an1 od2 an2 od3 an3 od4 an4 od5 an5 od6 an6 od7 an7 od8 an8 od9 an9 od10 an10 od11 an11 od12 an12 od13 an13 od14 an14 od15 an15 od16 an16 od17 an17 od18 an18 od19 an19 od20 an20 od21 an21 od22 an22 od23 an23 od24 an24 od25 an25 od26 an26 : Option Addr} {sl0 sl1 sl2 sl3 sl4 sl5 sl6 sl7 sl8 sl9 sl10 sl11 sl12 sl13 sl14 sl15 sl16 sl17 sl18 sl19 sl20 sl21 sl22 sl23 sl24 sl25 sl26 : Array (Option Value)} {oc0 kV0 dc0 pm0 cd0 ct0 oc1 kV1 dc1 pm1 cd1 ct1 oc2 kV2 dc2 pm2 cd2 ct2 oc3 kV3 dc3 pm3 cd3 ct3 oc4 kV4 dc4 pm4 cd4 ct4 oc5 kV5 dc5 pm5 cd5 ct5 oc6 kV6 dc6 pm6 cd6 ct6 oc7 kV7 dc7 pm7 cd7 ct7 oc8 kV8 dc8 pm8 cd8 ct8 oc9 kV9 dc9 pm9 cd9 ct9 oc10 kV10 dc10 pm10 cd10 ct10 oc11 kV11 dc11 pm11 cd11 ct11 oc12 kV12 dc12 pm12 cd12 ct12 oc13 kV13 dc13 pm13 cd13 ct13 oc14 kV14 dc14 pm14 cd14 ct14 oc15 kV15 dc15 pm15 cd15 ct15 oc16 kV16 dc16 pm16 cd16 ct16 oc17 kV17 dc17 pm17 cd17 ct17 oc18 kV18 dc18 pm18 cd18 ct18 oc19 kV19 dc19 pm19 cd19 ct19 oc20 kV20 dc20 pm20 cd20 ct20 oc21 kV21 dc21 pm21 cd21 ct21 oc22 kV22 dc22 pm22 cd22 ct22 oc23 kV23 dc23 pm23 cd23 ct23 oc24 kV24 dc24 pm24 cd24 ct24 oc25 kV25 dc25 pm25 cd25 ct25 oc26 kV26 dc26 pm26 cd26 ct26 : Value}
    (a0 : PySem.W.nsIn K mainGlobals "_law_hand" = some (some (.ref f0)))
    (l0 : K.lookup f0 = some ⟨oc0, od0, .func (PySem.W.fnOf "_law_hand" "_law_hand" (defArgs s__law_hand) (defBody s__law_hand) (defScope s__law_hand) .none kV0 dc0 pm0 an0 cd0 ct0), sl0⟩) (c0 : PySem.W.codeIn K cd0 "_law_hand" = true) (k0 : PySem.W.keepIn K (.ref f0) = true)
    (a1 : PySem.W.nsIn K mainGlobals "is_row" = some (some (.ref f1)))
    (l1 : K.lookup f1 = some ⟨oc1, od1, .func (PySem.W.fnOf "is_row" "is_row" (defArgs s_is_row) (defBody s_is_row) (defScope s_is_row) .none kV1 dc1 pm1 an1 cd1 ct1), sl1⟩) (c1 : PySem.W.codeIn K cd1 "is_row" = true) (k1 : PySem.W.keepIn K (.ref f1) = true)
    (a2 : PySem.W.nsIn K mainGlobals "is_integer" = some (some (.ref f2)))
    (l2 : K.lookup f2 = some ⟨oc2, od2, .func (PySem.W.fnOf "is_integer" "is_integer" (defArgs s_is_integer) (defBody s_is_integer) (defScope s_is_integer) .none kV2 dc2 pm2 an2 cd2 ct2), sl2⟩) (c2 : PySem.W.codeIn K cd2 "is_integer" = true) (k2 : PySem.W.keepIn K (.ref f2) = true)
    (a3 : PySem.W.nsIn K mainGlobals "check_makers" = some (some (.ref f3)))
    (l3 : K.lookup f3 = some ⟨oc3, od3, .func (PySem.W.fnOf "check_makers" "check_makers" (defArgs s_check_makers) (defBody s_check_makers) (defScope s_check_makers) .none kV3 dc3 pm3 an3 cd3 ct3), sl3⟩) (c3 : PySem.W.codeIn K cd3 "check_makers" = true) (k3 : PySem.W.keepIn K (.ref f3) = true)
    (a4 : PySem.W.nsIn K mainGlobals "are_integers" = some (some (.ref f4)))
    (l4 : K.lookup f4 = some ⟨oc4, od4, .func (PySem.W.fnOf "are_integers" "are_integers" (defArgs s_are_integers) (defBody s_are_integers) (defScope s_are_integers) .none kV4 dc4 pm4 an4 cd4 ct4), sl4⟩) (c4 : PySem.W.codeIn K cd4 "are_integers" = true) (k4 : PySem.W.keepIn K (.ref f4) = true)
    (a5 : PySem.W.nsIn K mainGlobals "check_like" = some (some (.ref f5)))
    (l5 : K.lookup f5 = some ⟨oc5, od5, .func (PySem.W.fnOf "check_like" "check_like" (defArgs s_check_like) (defBody s_check_like) (defScope s_check_like) .none kV5 dc5 pm5 an5 cd5 ct5), sl5⟩) (c5 : PySem.W.codeIn K cd5 "check_like" = true) (k5 : PySem.W.keepIn K (.ref f5) = true)
    (a6 : PySem.W.nsIn K mainGlobals "greatest_shifts" = some (some (.ref f6)))
    (l6 : K.lookup f6 = some ⟨oc6, od6, .func (PySem.W.fnOf "greatest_shifts" "greatest_shifts" (defArgs s_greatest_shifts) (defBody s_greatest_shifts) (defScope s_greatest_shifts) .none kV6 dc6 pm6 an6 cd6 ct6), sl6⟩) (c6 : PySem.W.codeIn K cd6 "greatest_shifts" = true) (k6 : PySem.W.keepIn K (.ref f6) = true)
    (a7 : PySem.W.nsIn K mainGlobals "sectors" = some (some (.ref f7)))
    (l7 : K.lookup f7 = some ⟨oc7, od7, .func (PySem.W.fnOf "sectors" "sectors" (defArgs s_sectors) (defBody s_sectors) (defScope s_sectors) .none kV7 dc7 pm7 an7 cd7 ct7), sl7⟩) (c7 : PySem.W.codeIn K cd7 "sectors" = true) (k7 : PySem.W.keepIn K (.ref f7) = true)
    (a8 : PySem.W.nsIn K mainGlobals "far" = some (some (.ref f8)))
    (l8 : K.lookup f8 = some ⟨oc8, od8, .func (PySem.W.fnOf "far" "far" (defArgs s_far) (defBody s_far) (defScope s_far) .none kV8 dc8 pm8 an8 cd8 ct8), sl8⟩) (c8 : PySem.W.codeIn K cd8 "far" = true) (k8 : PySem.W.keepIn K (.ref f8) = true)
    (a9 : PySem.W.nsIn K mainGlobals "step_row" = some (some (.ref f9)))
    (l9 : K.lookup f9 = some ⟨oc9, od9, .func (PySem.W.fnOf "step_row" "step_row" (defArgs s_step_row) (defBody s_step_row) (defScope s_step_row) .none kV9 dc9 pm9 an9 cd9 ct9), sl9⟩) (c9 : PySem.W.codeIn K cd9 "step_row" = true) (k9 : PySem.W.keepIn K (.ref f9) = true)
    (a10 : PySem.W.nsIn K mainGlobals "plain_row" = some (some (.ref f10)))
    (l10 : K.lookup f10 = some ⟨oc10, od10, .func (PySem.W.fnOf "plain_row" "plain_row" (defArgs s_plain_row) (defBody s_plain_row) (defScope s_plain_row) .none kV10 dc10 pm10 an10 cd10 ct10), sl10⟩) (c10 : PySem.W.codeIn K cd10 "plain_row" = true) (k10 : PySem.W.keepIn K (.ref f10) = true)
    (a11 : PySem.W.nsIn K mainGlobals "kinks" = some (some (.ref f11)))
    (l11 : K.lookup f11 = some ⟨oc11, od11, .func (PySem.W.fnOf "kinks" "kinks" (defArgs s_kinks) (defBody s_kinks) (defScope s_kinks) .none kV11 dc11 pm11 an11 cd11 ct11), sl11⟩) (c11 : PySem.W.codeIn K cd11 "kinks" = true) (k11 : PySem.W.keepIn K (.ref f11) = true)
    (a12 : PySem.W.nsIn K mainGlobals "is_within" = some (some (.ref f12)))
    (l12 : K.lookup f12 = some ⟨oc12, od12, .func (PySem.W.fnOf "is_within" "is_within" (defArgs s_is_within) (defBody s_is_within) (defScope s_is_within) .none kV12 dc12 pm12 an12 cd12 ct12), sl12⟩) (c12 : PySem.W.codeIn K cd12 "is_within" = true) (k12 : PySem.W.keepIn K (.ref f12) = true)
    (a13 : PySem.W.nsIn K mainGlobals "is_lot" = some (some (.ref f13)))
    (l13 : K.lookup f13 = some ⟨oc13, od13, .func (PySem.W.fnOf "is_lot" "is_lot" (defArgs s_is_lot) (defBody s_is_lot) (defScope s_is_lot) .none kV13 dc13 pm13 an13 cd13 ct13), sl13⟩) (c13 : PySem.W.codeIn K cd13 "is_lot" = true) (k13 : PySem.W.keepIn K (.ref f13) = true)
    (a14 : PySem.W.nsIn K mainGlobals "check_lot" = some (some (.ref f14)))
    (l14 : K.lookup f14 = some ⟨oc14, od14, .func (PySem.W.fnOf "check_lot" "check_lot" (defArgs s_check_lot) (defBody s_check_lot) (defScope s_check_lot) .none kV14 dc14 pm14 an14 cd14 ct14), sl14⟩) (c14 : PySem.W.codeIn K cd14 "check_lot" = true) (k14 : PySem.W.keepIn K (.ref f14) = true)
    (a15 : PySem.W.nsIn K mainGlobals "made" = some (some (.ref f15)))
    (l15 : K.lookup f15 = some ⟨oc15, od15, .func (PySem.W.fnOf "made" "made" (defArgs s_made) (defBody s_made) (defScope s_made) .none kV15 dc15 pm15 an15 cd15 ct15), sl15⟩) (c15 : PySem.W.codeIn K cd15 "made" = true) (k15 : PySem.W.keepIn K (.ref f15) = true)
    (a16 : PySem.W.nsIn K mainGlobals "is_in_span" = some (some (.ref f16)))
    (l16 : K.lookup f16 = some ⟨oc16, od16, .func (PySem.W.fnOf "is_in_span" "is_in_span" (defArgs s_is_in_span) (defBody s_is_in_span) (defScope s_is_in_span) .none kV16 dc16 pm16 an16 cd16 ct16), sl16⟩) (c16 : PySem.W.codeIn K cd16 "is_in_span" = true) (k16 : PySem.W.keepIn K (.ref f16) = true)
    (a17 : PySem.W.nsIn K mainGlobals "is_inner" = some (some (.ref f17)))
    (l17 : K.lookup f17 = some ⟨oc17, od17, .func (PySem.W.fnOf "is_inner" "is_inner" (defArgs s_is_inner) (defBody s_is_inner) (defScope s_is_inner) .none kV17 dc17 pm17 an17 cd17 ct17), sl17⟩) (c17 : PySem.W.codeIn K cd17 "is_inner" = true) (k17 : PySem.W.keepIn K (.ref f17) = true)
    (a18 : PySem.W.nsIn K mainGlobals "_law_draw" = some (some (.ref f18)))
    (l18 : K.lookup f18 = some ⟨oc18, od18, .func (PySem.W.fnOf "_law_draw" "_law_draw" (defArgs s__law_draw) (defBody s__law_draw) (defScope s__law_draw) .none kV18 dc18 pm18 an18 cd18 ct18), sl18⟩) (c18 : PySem.W.codeIn K cd18 "_law_draw" = true) (k18 : PySem.W.keepIn K (.ref f18) = true)
    (a19 : PySem.W.nsIn K mainGlobals "_law_makers" = some (some (.ref f19)))
    (l19 : K.lookup f19 = some ⟨oc19, od19, .func (PySem.W.fnOf "_law_makers" "_law_makers" (defArgs s__law_makers) (defBody s__law_makers) (defScope s__law_makers) .none kV19 dc19 pm19 an19 cd19 ct19), sl19⟩) (c19 : PySem.W.codeIn K cd19 "_law_makers" = true) (k19 : PySem.W.keepIn K (.ref f19) = true)
    (a20 : PySem.W.nsIn K mainGlobals "_law_made" = some (some (.ref f20)))
    (l20 : K.lookup f20 = some ⟨oc20, od20, .func (PySem.W.fnOf "_law_made" "_law_made" (defArgs s__law_made) (defBody s__law_made) (defScope s__law_made) .none kV20 dc20 pm20 an20 cd20 ct20), sl20⟩) (c20 : PySem.W.codeIn K cd20 "_law_made" = true) (k20 : PySem.W.keepIn K (.ref f20) = true)
    (a21 : PySem.W.nsIn K mainGlobals "_law_shifts" = some (some (.ref f21)))
    (l21 : K.lookup f21 = some ⟨oc21, od21, .func (PySem.W.fnOf "_law_shifts" "_law_shifts" (defArgs s__law_shifts) (defBody s__law_shifts) (defScope s__law_shifts) .none kV21 dc21 pm21 an21 cd21 ct21), sl21⟩) (c21 : PySem.W.codeIn K cd21 "_law_shifts" = true) (k21 : PySem.W.keepIn K (.ref f21) = true)
    (a22 : PySem.W.nsIn K mainGlobals "_law_near" = some (some (.ref f22)))
    (l22 : K.lookup f22 = some ⟨oc22, od22, .func (PySem.W.fnOf "_law_near" "_law_near" (defArgs s__law_near) (defBody s__law_near) (defScope s__law_near) .none kV22 dc22 pm22 an22 cd22 ct22), sl22⟩) (c22 : PySem.W.codeIn K cd22 "_law_near" = true) (k22 : PySem.W.keepIn K (.ref f22) = true)
    (a23 : PySem.W.nsIn K mainGlobals "cut_by" = some (some (.ref f23)))
    (l23 : K.lookup f23 = some ⟨oc23, od23, .func (PySem.W.fnOf "cut_by" "cut_by" (defArgs s_cut_by) (defBody s_cut_by) (defScope s_cut_by) .none kV23 dc23 pm23 an23 cd23 ct23), sl23⟩) (c23 : PySem.W.codeIn K cd23 "cut_by" = true) (k23 : PySem.W.keepIn K (.ref f23) = true)
    (a24 : PySem.W.nsIn K mainGlobals "_law_any" = some (some (.ref f24)))
    (l24 : K.lookup f24 = some ⟨oc24, od24, .func (PySem.W.fnOf "_law_any" "_law_any" (defArgs s__law_any) (defBody s__law_any) (defScope s__law_any) .none kV24 dc24 pm24 an24 cd24 ct24), sl24⟩) (c24 : PySem.W.codeIn K cd24 "_law_any" = true) (k24 : PySem.W.keepIn K (.ref f24) = true)
    (a25 : PySem.W.nsIn K mainGlobals "_law_lots" = some (some (.ref f25)))
    (l25 : K.lookup f25 = some ⟨oc25, od25, .func (PySem.W.fnOf "_law_lots" "_law_lots" (defArgs s__law_lots) (defBody s__law_lots) (defScope s__law_lots) .none kV25 dc25 pm25 an25 cd25 ct25), sl25⟩) (c25 : PySem.W.codeIn K cd25 "_law_lots" = true) (k25 : PySem.W.keepIn K (.ref f25) = true)
    (a26 : PySem.W.nsIn K mainGlobals "law" = some (some (.ref f26)))
    (l26 : K.lookup f26 = some ⟨oc26, od26, .func (PySem.W.fnOf "law" "law" (defArgs s_law) (defBody s_law) (defScope s_law) .none kV26 dc26 pm26 an26 cd26 ct26), sl26⟩) (c26 : PySem.W.codeIn K cd26 "law" = true) (k26 : PySem.W.keepIn K (.ref f26) = true)
    (z_abs : PySem.W.nsIn K mainGlobals "abs" = some none)
    (z_all : PySem.W.nsIn K mainGlobals "all" = some none)
    (z_bool : PySem.W.nsIn K mainGlobals "bool" = some none)
    (z_enumerate : PySem.W.nsIn K mainGlobals "enumerate" = some none)
    (z_int : PySem.W.nsIn K mainGlobals "int" = some none)
    (z_isinstance : PySem.W.nsIn K mainGlobals "isinstance" = some none)
    (z_len : PySem.W.nsIn K mainGlobals "len" = some none)
    (z_list : PySem.W.nsIn K mainGlobals "list" = some none)
    (z_max : PySem.W.nsIn K mainGlobals "max" = some none)
    (z_min : PySem.W.nsIn K mainGlobals "min" = some none)
    (z_range : PySem.W.nsIn K mainGlobals "range" = some none)
    (z_repr : PySem.W.nsIn K mainGlobals "repr" = some none)
    (z_set : PySem.W.nsIn K mainGlobals "set" = some none)
    (z_sorted : PySem.W.nsIn K mainGlobals "sorted" = some none)
    (z_tuple : PySem.W.nsIn K mainGlobals "tuple" = some none)
    (z_zip : PySem.W.nsIn K mainGlobals "zip" = some none)
    {tk_MOST_MAKERS : Tok} (z_MOST_MAKERS : PySem.W.nsIn K mainGlobals "MOST_MAKERS" = some (some (.int 8 tk_MOST_MAKERS)))
    {tk_MOST_WIDE : Tok} (z_MOST_WIDE : PySem.W.nsIn K mainGlobals "MOST_WIDE" = some (some (.int 8 tk_MOST_WIDE)))
    : ∃ fd : FuncData, (∀ (s : Shared) (v : Value), BindsTo s fd ⟨[v], []⟩ [("script", v)]) ∧ ∀ base : Heap, K.In base → base.Ns mainGlobals mg → FnOk P w K mg base CX0 7 fa fd ["script"] (spEnd K) := by
  have e := hfa.symm.trans (PySem.W.mg_of X G a26)
  cases e
  have F0 := fun_mk (st := s__law_hand) l0 c0 k0
  have b0 := F0.binds (ps := ["script"]) fun _ _ _ _ _ _ us hl => match us, hl with | [_], _ => rfl
  have F1 := fun_mk (st := s_is_row) l1 c1 k1
  have b1 := F1.binds (ps := ["thing"]) fun _ _ _ _ _ _ us hl => match us, hl with | [_], _ => rfl
  have F2 := fun_mk (st := s_is_integer) l2 c2 k2
  have b2 := F2.binds (ps := ["thing"]) fun _ _ _ _ _ _ us hl => match us, hl with | [_], _ => rfl
  have F3 := fun_mk (st := s_check_makers) l3 c3 k3
  have b3 := F3.binds (ps := ["rows"]) fun _ _ _ _ _ _ us hl => match us, hl with | [_], _ => rfl
  have F4 := fun_mk (st := s_are_integers) l4 c4 k4
  have b4 := F4.binds (ps := ["thing", "many"]) fun _ _ _ _ _ _ us hl => match us, hl with | [_, _], _ => rfl
  have F5 := fun_mk (st := s_check_like) l5 c5 k5
  have b5 := F5.binds (ps := ["rows", "row"]) fun _ _ _ _ _ _ us hl => match us, hl with | [_, _], _ => rfl
  have F6 := fun_mk (st := s_greatest_shifts) l6 c6 k6
  have b6 := F6.binds (ps := ["rows", "row"]) fun _ _ _ _ _ _ us hl => match us, hl with | [_, _], _ => rfl
  have F7 := fun_mk (st := s_sectors) l7 c7 k7
  have b7 := F7.binds (ps := ["rows", "row"]) fun _ _ _ _ _ _ us hl => match us, hl with | [_, _], _ => rfl
  have F8 := fun_mk (st := s_far) l8 c8 k8
  have b8 := F8.binds (ps := ["one", "other"]) fun _ _ _ _ _ _ us hl => match us, hl with | [_, _], _ => rfl
  have F9 := fun_mk (st := s_step_row) l9 c9 k9
  have b9 := F9.binds (ps := ["one", "other", "number"]) fun _ _ _ _ _ _ us hl => match us, hl with | [_, _, _], _ => rfl
  have F10 := fun_mk (st := s_plain_row) l10 c10 k10
  have b10 := F10.binds (ps := ["row"]) fun _ _ _ _ _ _ us hl => match us, hl with | [_], _ => rfl
  have F11 := fun_mk (st := s_kinks) l11 c11 k11
  have b11 := F11.binds (ps := ["one", "other"]) fun _ _ _ _ _ _ us hl => match us, hl with | [_, _], _ => rfl
  have F12 := fun_mk (st := s_is_within) l12 c12 k12
  have b12 := F12.binds (ps := ["thing", "low", "high"]) fun _ _ _ _ _ _ us hl => match us, hl with | [_, _, _], _ => rfl
  have F13 := fun_mk (st := s_is_lot) l13 c13 k13
  have b13 := F13.binds (ps := ["thing", "many"]) fun _ _ _ _ _ _ us hl => match us, hl with | [_, _], _ => rfl
  have F14 := fun_mk (st := s_check_lot) l14 c14 k14
  have b14 := F14.binds (ps := ["thing", "many"]) fun _ _ _ _ _ _ us hl => match us, hl with | [_, _], _ => rfl
  have F15 := fun_mk (st := s_made) l15 c15 k15
  have b15 := F15.binds (ps := ["rows", "shifts"]) fun _ _ _ _ _ _ us hl => match us, hl with | [_, _], _ => rfl
  have F16 := fun_mk (st := s_is_in_span) l16 c16 k16
  have b16 := F16.binds (ps := ["rows", "row"]) fun _ _ _ _ _ _ us hl => match us, hl with | [_, _], _ => rfl
  have F17 := fun_mk (st := s_is_inner) l17 c17 k17
  have b17 := F17.binds (ps := ["rows", "row", "lot"]) fun _ _ _ _ _ _ us hl => match us, hl with | [_, _, _], _ => rfl
  have F18 := fun_mk (st := s__law_draw) l18 c18 k18
  have b18 := F18.binds (ps := ["hand", "bound"]) fun _ _ _ _ _ _ us hl => match us, hl with | [_, _], _ => rfl
  have F19 := fun_mk (st := s__law_makers) l19 c19 k19
  have b19 := F19.binds (ps := ["hand", "wide"]) fun _ _ _ _ _ _ us hl => match us, hl with | [_, _], _ => rfl
  have F20 := fun_mk (st := s__law_made) l20 c20 k20
  have b20 := F20.binds (ps := ["makers", "shifts"]) fun _ _ _ _ _ _ us hl => match us, hl with | [_, _], _ => rfl
  have F21 := fun_mk (st := s__law_shifts) l21 c21 k21
  have b21 := F21.binds (ps := ["makers", "row"]) fun _ _ _ _ _ _ us hl => match us, hl with | [_, _], _ => rfl
  have F22 := fun_mk (st := s__law_near) l22 c22 k22
  have b22 := F22.binds (ps := ["makers", "row"]) fun _ _ _ _ _ _ us hl => match us, hl with | [_, _], _ => rfl
  have F23 := fun_mk (st := s_cut_by) l23 c23 k23
  have b23 := F23.binds (ps := ["rows", "row"]) fun _ _ _ _ _ _ us hl => match us, hl with | [_, _], _ => rfl
  have F24 := fun_mk (st := s__law_any) l24 c24 k24
  have b24 := F24.binds (ps := ["hand", "things"]) fun _ _ _ _ _ _ us hl => match us, hl with | [_, _], _ => rfl
  have F25 := fun_mk (st := s__law_lots) l25 c25 k25
  have b25 := F25.binds (ps := ["many"]) fun _ _ _ _ _ _ us hl => match us, hl with | [_], _ => rfl
  have F26 := fun_mk (st := s_law) l26 c26 k26
  have b26 := F26.binds (ps := ["script"]) fun _ _ _ _ _ _ us hl => match us, hl with | [_], _ => rfl
  have hT : ∃ T : Tx K mg, T.f_law = fa ∧ ∀ (s : Shared) (v : Value), BindsTo s T.d_law ⟨[v], []⟩ [("script", v)] := ⟨{
    f__law_hand := f0, d__law_hand := _, F__law_hand := F0, b__law_hand := b0,
    g__law_hand := PySem.W.mg_of X G a0,
    f_is_row := f1, d_is_row := _, F_is_row := F1, b_is_row := b1,
    g_is_row := PySem.W.mg_of X G a1,
    f_is_integer := f2, d_is_integer := _, F_is_integer := F2, b_is_integer := b2,
    g_is_integer := PySem.W.mg_of X G a2,
    f_check_makers := f3, d_check_makers := _, F_check_makers := F3, b_check_makers := b3,
    g_check_makers := PySem.W.mg_of X G a3,
    f_are_integers := f4, d_are_integers := _, F_are_integers := F4, b_are_integers := b4,
    g_are_integers := PySem.W.mg_of X G a4,
    f_check_like := f5, d_check_like := _, F_check_like := F5, b_check_like := b5,
    g_check_like := PySem.W.mg_of X G a5,
    f_greatest_shifts := f6, d_greatest_shifts := _, F_greatest_shifts := F6, b_greatest_shifts := b6,
    g_greatest_shifts := PySem.W.mg_of X G a6,
    f_sectors := f7, d_sectors := _, F_sectors := F7, b_sectors := b7,
    g_sectors := PySem.W.mg_of X G a7,
    f_far := f8, d_far := _, F_far := F8, b_far := b8,
    g_far := PySem.W.mg_of X G a8,
    f_step_row := f9, d_step_row := _, F_step_row := F9, b_step_row := b9,
    g_step_row := PySem.W.mg_of X G a9,
    f_plain_row := f10, d_plain_row := _, F_plain_row := F10, b_plain_row := b10,
    g_plain_row := PySem.W.mg_of X G a10,
    f_kinks := f11, d_kinks := _, F_kinks := F11, b_kinks := b11,
    g_kinks := PySem.W.mg_of X G a11,
    f_is_within := f12, d_is_within := _, F_is_within := F12, b_is_within := b12,
    g_is_within := PySem.W.mg_of X G a12,
    f_is_lot := f13, d_is_lot := _, F_is_lot := F13, b_is_lot := b13,
    g_is_lot := PySem.W.mg_of X G a13,
    f_check_lot := f14, d_check_lot := _, F_check_lot := F14, b_check_lot := b14,
    g_check_lot := PySem.W.mg_of X G a14,
    f_made := f15, d_made := _, F_made := F15, b_made := b15,
    g_made := PySem.W.mg_of X G a15,
    f_is_in_span := f16, d_is_in_span := _, F_is_in_span := F16, b_is_in_span := b16,
    g_is_in_span := PySem.W.mg_of X G a16,
    f_is_inner := f17, d_is_inner := _, F_is_inner := F17, b_is_inner := b17,
    g_is_inner := PySem.W.mg_of X G a17,
    f__law_draw := f18, d__law_draw := _, F__law_draw := F18, b__law_draw := b18,
    g__law_draw := PySem.W.mg_of X G a18,
    f__law_makers := f19, d__law_makers := _, F__law_makers := F19, b__law_makers := b19,
    g__law_makers := PySem.W.mg_of X G a19,
    f__law_made := f20, d__law_made := _, F__law_made := F20, b__law_made := b20,
    g__law_made := PySem.W.mg_of X G a20,
    f__law_shifts := f21, d__law_shifts := _, F__law_shifts := F21, b__law_shifts := b21,
    g__law_shifts := PySem.W.mg_of X G a21,
    f__law_near := f22, d__law_near := _, F__law_near := F22, b__law_near := b22,
    g__law_near := PySem.W.mg_of X G a22,
    f_cut_by := f23, d_cut_by := _, F_cut_by := F23, b_cut_by := b23,
    g_cut_by := PySem.W.mg_of X G a23,
    f__law_any := f24, d__law_any := _, F__law_any := F24, b__law_any := b24,
    g__law_any := PySem.W.mg_of X G a24,
    f__law_lots := f25, d__law_lots := _, F__law_lots := F25, b__law_lots := b25,
    g__law_lots := PySem.W.mg_of X G a25,
    f_law := _, d_law := _, F_law := F26, b_law := b26,
    g_law := PySem.W.mg_of X G a26,
    m_abs := PySem.W.mg_none_of X G z_abs,
    m_all := PySem.W.mg_none_of X G z_all,
    m_bool := PySem.W.mg_none_of X G z_bool,
    m_enumerate := PySem.W.mg_none_of X G z_enumerate,
    m_int := PySem.W.mg_none_of X G z_int,
    m_isinstance := PySem.W.mg_none_of X G z_isinstance,
    m_len := PySem.W.mg_none_of X G z_len,
    m_list := PySem.W.mg_none_of X G z_list,
    m_max := PySem.W.mg_none_of X G z_max,
    m_min := PySem.W.mg_none_of X G z_min,
    m_range := PySem.W.mg_none_of X G z_range,
    m_repr := PySem.W.mg_none_of X G z_repr,
    m_set := PySem.W.mg_none_of X G z_set,
    m_sorted := PySem.W.mg_none_of X G z_sorted,
    m_tuple := PySem.W.mg_none_of X G z_tuple,
    m_zip := PySem.W.mg_none_of X G z_zip,
    k_MOST_MAKERS := ⟨_, PySem.W.mg_of X G z_MOST_MAKERS, _, rfl⟩,
    k_MOST_WIDE := ⟨_, PySem.W.mg_of X G z_MOST_WIDE, _, rfl⟩ }, rfl, fun s v => .of_eq rfl⟩
  obtain ⟨T, eT, hb⟩ := hT
  exact ⟨T.d_law, hb, fun base _ _ => eT ▸ end_of (ok_law T) rfl hlaw⟩
end Wk25
set_option Elab.async false
set_option linter.all false
set_option maxRecDepth 100000
set_option maxHeartbeats 4000000
namespace Wk25
open PySem PL
def handQ := handF F__law_hand
theorem q__law_hand {ns h : _} (e : handQ ns = some h) : FJ F__law_hand [.fz (eScr ns)] (.own h) [.any] := handF_fj e
def drawQ := drawF F__law_draw
theorem q__law_draw {h : List PV} {k : Int} {r : Int × List PV} (e : drawQ h k = some r) : FJ F__law_draw [.own h, .fz (.int k)] (.fz (.int r.1)) [.own r.2, .fz (.int k)] := drawF_fj e
def p_is_row (thing_11 : (List (List Int))) : Bool := true
theorem q_is_row {thing_11 : (List (List Int))} : FJ F_is_row [.fz ((eT (eT PV.int)) thing_11)] (.fz (PV.bl (p_is_row thing_11))) [.any] :=
  fj_fn (R := Bool) (vR := (fun (r : Bool) => RF.fz (PV.bl r))) (AR := (fun (r : Bool) => [.any])) (m := some true) (o := p_is_row thing_11) rfl (sj_last (sj_retF (o := true) (ej_n2F (ej_pk rfl) (ej_tup (vj_consE ej_c trivial rfl (vj_consE ej_c trivial rfl vj_nil)) rfl) trivial rfl) trivial (.a .nil))) Wk.refl
def p_is_row_i2 (thing_14 : (List Int)) : Bool := true
theorem q_is_row_i2 {thing_14 : (List Int)} : FJ F_is_row [.fz ((eT PV.int) thing_14)] (.fz (PV.bl (p_is_row_i2 thing_14))) [.any] :=
  fj_fn (R := Bool) (vR := (fun (r : Bool) => RF.fz (PV.bl r))) (AR := (fun (r : Bool) => [.any])) (m := some true) (o := p_is_row_i2 thing_14) rfl (sj_last (sj_retF (o := true) (ej_n2F (ej_pk rfl) (ej_tup (vj_consE ej_c trivial rfl (vj_consE ej_c trivial rfl vj_nil)) rfl) trivial rfl) trivial (.a .nil))) Wk.refl
def p_is_integer (thing_20 : Int) : Bool := true
theorem q_is_integer {thing_20 : Int} : FJ F_is_integer [.fz (PV.int thing_20)] (.fz (PV.bl (p_is_integer thing_20))) [.any] :=
  fj_fn (R := Bool) (vR := (fun (r : Bool) => RF.fz (PV.bl r))) (AR := (fun (r : Bool) => [.any])) (m := some true) (o := p_is_integer thing_20) rfl (sj_last (sj_retF (o := true) (ej_andP (ej_n2F (ej_pk rfl) ej_c trivial rfl) (ej_notC (ej_n2F (ej_pk rfl) ej_c trivial rfl))) trivial (.a .nil))) Wk.refl
def p_check_makers (rows_10 : (List (List Int))) : Option Unit := (if ((!(p_is_row rows_10)) || (!(decide ((1 : Int) ≤ (rows_10.length : Int)) && decide ((rows_10.length : Int) ≤ (8 : Int))))) = true then none else (forG rows_10 (() : Unit) fun x_28 g_35 => (if (!(p_is_row_i2 x_28)) = true then some true else (if (!(decide ((1 : Int) ≤ (x_28.length : Int)) && decide ((x_28.length : Int) ≤ (8 : Int)))) = true then some true else (L2.atI rows_10 (0 : Int)).bind fun x_36 => some (!decide ((x_28.length : Int) = (x_36.length : Int)))).bind fun t_37 => some t_37).bind fun t_38 => (if t_38 = true then none else (if (!((x_28.map fun (x_39 : Int) => ((p_is_integer x_39) : Bool)).all id)) = true then none else some ()))).bind fun g_41 => some ())
theorem q_check_makers {rows_10 : (List (List Int))} {r : Unit} (h : p_check_makers rows_10 = some r) : FJ F_check_makers [.fz ((eT (eT PV.int)) rows_10)] (.fz (eU r)) [.any] := by
  unfold p_check_makers at h
  exact fj_fn (R := Unit) (vR := (fun (r : Unit) => RF.fz (eU r))) (AR := (fun (r : Unit) => [.any, .any, .any])) h (sj_ifX (tj_or (tj_not (tj_of (ej_call (cj_v (ej_var rfl) trivial cj_nil) Wk.refl (q_is_row (thing_11 := rows_10)) trivial))) (tj_not (tj_of (ej_chain ej_c (ej_n1F (ej_pk rfl) clLen_T) trivial rfl ej_c trivial rfl Wk.refl))) Wk.refl Wk.refl) sj_none (sj_skip (sj_last (sj_for (e := (eT PV.int)) (fun (g : Unit) => [.fz ((eT (eT PV.int)) rows_10), .any, .any]) (ij_seq (ej_var rfl) rfl) Wk.refl (fun x_28 g_35 => gj_nm) (fun x_28 g_35 => (sj_bind fun t_38 ht_38 => (sj_ifX (tjx_or (w0 := true) (ct := fun (z : Bool) => z) (BB := (fun (z : Bool) => [.fz ((eT (eT PV.int)) rows_10), .fz ((eT PV.int) x_28), .any])) (tj_not (tj_of (ej_call (cj_v (ej_var rfl) trivial cj_nil) Wk.refl (q_is_row_i2 (thing_14 := x_28)) trivial))) (tjo_bind fun t_37 ht_37 => (tjo_some (tjx_or (w0 := true) (ct := fun (z : Bool) => z) (BB := (fun (z : Bool) => [.fz ((eT (eT PV.int)) rows_10), .fz ((eT PV.int) x_28), .any])) (tj_not (tj_of (ej_chain ej_c (ej_n1F (ej_pk rfl) clLen_T) trivial rfl ej_c trivial rfl Wk.refl))) (tjo_bind fun x_36 hx_36 => (tjo_some (tj_of (ej_binF (ej_n1F (ej_pk rfl) clLen_T) (ej_n1F (ej_binF (ej_pk rfl) ej_c trivial (opIx_T hx_36)) clLen_T) trivial (opNe_q (a := ((x_28.length : Int) : Int)) (b := ((x_36.length : Int) : Int)) eqv_int rfl))))) rfl Wk.refl ht_37))) rfl Wk.refl ht_38) sj_none (sj_skip (sj_last (sj_ifX (tj_not (tj_of (ej_n1F (ej_lc (vs := [2]) (e := PV.int) (f := fun (x_39 : Int) => (p_is_integer x_39)) (e' := PV.bl) (AH := [.fz ((eT (eT PV.int)) rows_10), .fz ((eT PV.int) x_28), .any]) (r := fun (x_39 : Int) => RF.fz (PV.bl (p_is_integer x_39))) (ij_seq (ej_var rfl) rfl) Wk.refl (fun x_39 => gj_nm) (fun x_39 => (ej_call (cj_v (ej_var rfl) trivial cj_nil) Wk.refl (q_is_integer (thing_20 := x_39)) trivial)) (fun _ => trivial) (fun _ => rfl) (fun _ => (.r (.r (.a .nil))))) clAll_q))) sj_none (sj_skip (sj_endL (.r (.a (.r .nil))))))))))) fun g_41 => (sj_endF rfl (.a (.r (.r .nil)))))))) Wk.refl
def p_are_integers (thing_44 : (List Int)) (many_45 : Int) : Bool := ((p_is_row_i2 thing_44) && (decide ((thing_44.length : Int) = many_45) && ((thing_44.map fun (x_48 : Int) => ((p_is_integer x_48) : Bool)).all id)))
theorem q_are_integers {thing_44 : (List Int)} {many_45 : Int} : FJ F_are_integers [.fz ((eT PV.int) thing_44), .fz (PV.int many_45)] (.fz (PV.bl (p_are_integers thing_44 many_45))) [.any, .any] :=
  fj_fn (R := Bool) (vR := (fun (r : Bool) => RF.fz (PV.bl r))) (AR := (fun (r : Bool) => [.any, .any, .any])) (m := some ((p_is_row_i2 thing_44) && (decide ((thing_44.length : Int) = many_45) && ((thing_44.map fun (x_48 : Int) => ((p_is_integer x_48) : Bool)).all id)))) (o := p_are_integers thing_44 many_45) rfl (sj_last (sj_retF (o := ((p_is_row_i2 thing_44) && (decide ((thing_44.length : Int) = many_45) && ((thing_44.map fun (x_48 : Int) => ((p_is_integer x_48) : Bool)).all id)))) (ej_and (ej_call (cj_v (ej_var rfl) trivial cj_nil) Wk.refl (q_is_row_i2 (thing_14 := thing_44)) trivial) (ej_and (ej_binF (ej_n1F (ej_pk rfl) clLen_T) (ej_pk rfl) trivial (opEq_q (a := ((thing_44.length : Int) : Int)) (b := (many_45 : Int)) eqv_int rfl)) (ej_n1F (ej_lc (vs := [2]) (e := PV.int) (f := fun (x_48 : Int) => (p_is_integer x_48)) (e' := PV.bl) (AH := [.fz ((eT PV.int) thing_44), .fz (PV.int many_45), .any]) (r := fun (x_48 : Int) => RF.fz (PV.bl (p_is_integer x_48))) (ij_seq (ej_var rfl) rfl) Wk.refl (fun x_48 => gj_nm) (fun x_48 => (ej_call (cj_v (ej_var rfl) trivial cj_nil) Wk.refl (q_is_integer (thing_20 := x_48)) trivial)) (fun _ => trivial) (fun _ => rfl) (fun _ => (.r (.r (.a .nil))))) clAll_q) Wk.refl Wk.refl) Wk.refl Wk.refl) trivial (.a (.a (.r .nil))))) Wk.refl
def p_check_like (rows_8 : (List (List Int))) (row_9 : (List Int)) : Option Unit := (p_check_makers rows_8).bind fun r_50 => (L2.atI rows_8 (0 : Int)).bind fun x_51 => (if (!(p_are_integers row_9 (x_51.length : Int))) = true then none else some ())
theorem q_check_like {rows_8 : (List (List Int))} {row_9 : (List Int)} {r : Unit} (h : p_check_like rows_8 row_9 = some r) : FJ F_check_like [.fz ((eT (eT PV.int)) rows_8), .fz ((eT PV.int) row_9)] (.fz (eU r)) [.any, .any] := by
  unfold p_check_like at h
  exact fj_fn (R := Unit) (vR := (fun (r : Unit) => RF.fz (eU r))) (AR := (fun (r : Unit) => [.any, .any])) h (sj_bind fun r_50 hr_50 => (sj_expr (ej_call (cj_v (ej_var rfl) trivial cj_nil) Wk.refl (q_check_makers (rows_10 := rows_8) hr_50) trivial) (sj_last (sj_bind fun x_51 hx_51 => (sj_ifX (tj_not (tj_of (ej_call (cj_v (ej_var rfl) trivial (cj_v (ej_n1F (ej_binF (ej_pk rfl) ej_c trivial (opIx_T hx_51)) clLen_T) trivial cj_nil)) Wk.refl (q_are_integers (thing_44 := row_9) (many_45 := (x_51.length : Int))) trivial))) sj_none (sj_skip (sj_endF rfl (.a (.a .nil))))))))) Wk.refl
def p_greatest_shifts (rows_6 : (List (List Int))) (row_7 : (List Int)) : Option (List Int) := (p_check_like rows_6 row_7).bind fun r_62 => (mapO rows_6 fun x_63 => (minO ((x_63.zip row_7).map fun (x_68 : (Int × Int)) => ((x_68.2 - x_68.1) : Int))).bind fun m_70 => some (m_70 : Int)).bind fun ys_71 => some ys_71
theorem q_greatest_shifts {rows_6 : (List (List Int))} {row_7 : (List Int)} {r : (List Int)} (h : p_greatest_shifts rows_6 row_7 = some r) : FJ F_greatest_shifts [.fz ((eT (eT PV.int)) rows_6), .fz ((eT PV.int) row_7)] (.fz ((eT PV.int) r)) [.any, .any] := by
  unfold p_greatest_shifts at h
  exact fj_fn (R := (List Int)) (vR := (fun (r : (List Int)) => RF.fz ((eT PV.int) r))) (AR := (fun (r : (List Int)) => [.any, .any, .any, .any, .any])) h (sj_bind fun r_62 hr_62 => (sj_expr (ej_call (cj_v (ej_var rfl) trivial (cj_v (ej_var rfl) trivial cj_nil)) Wk.refl (q_check_like (rows_8 := rows_6) (row_9 := row_7) hr_62) trivial) (sj_last (sj_bind fun ys_71 hys_71 => (sj_retF (o := ys_71) (ej_n1F (ej_lcM (vs := [2]) (e := (eT PV.int)) (f := fun (x_63 : (List Int)) => (minO ((x_63.zip row_7).map fun (x_68 : (Int × Int)) => ((x_68.2 - x_68.1) : Int))).bind fun m_70 => some (m_70 : Int)) (e' := PV.int) (AH := [.fz ((eT (eT PV.int)) rows_6), .fz ((eT PV.int) row_7), .any, .any, .any]) (rr := (fun (z : Int) => RF.fz (PV.int z))) (AC := fun _ _ => [.fz ((eT (eT PV.int)) rows_6), .fz ((eT PV.int) row_7), .any, .any, .any]) (ij_seq (ej_var rfl) rfl) Wk.refl (fun x_63 => gj_nm) (fun x_63 => (ejo_bind fun m_70 hm_70 => (ejo_some (ej_wk (ej_n1F (ej_lc (vs := [3, 4]) (e := (eP2 PV.int PV.int)) (f := fun (x_68 : (Int × Int)) => (x_68.2 - x_68.1)) (e' := PV.int) (AH := [.fz ((eT (eT PV.int)) rows_6), .fz ((eT PV.int) row_7), .fz ((eT PV.int) x_63), .any, .any]) (r := fun (x_68 : (Int × Int)) => RF.fz (PV.int (x_68.2 - x_68.1))) (ij_zip2 (ej_var rfl) (ej_var rfl) rfl rfl) Wk.refl (fun x_68 => (gj_tp (gsj_cons gj_nm (gsj_cons gj_nm gsj_nil)))) (fun x_68 => (ej_b0 (ej_pk rfl) (ej_pk rfl) rfl)) (fun _ => trivial) (fun _ => rfl) (fun _ => (.r (.r (.r (.a (.a .nil))))))) (clMin_L hm_70)) (.r (.r (.a (.r (.r .nil))))) trivial)))) (fun _ => trivial) (fun _ => rfl) (fun _ _ => Wk.refl) hys_71) rfl) trivial (.a (.a (.r (.r (.r .nil)))))))))) Wk.refl
def p_sectors (rows_4 : (List (List Int))) (row_5 : (List Int)) : Option (List (List Int)) := (p_greatest_shifts rows_4 row_5).bind fun r_116 => (forG (enumQ 0 row_5) (([] : (List (List Int))) : (List (List Int))) fun x_119 g_146 => (lcS (enumQ 0 rows_4) () (fun x_147 s_153 => ((L2.atI x_147.2 x_119.1).bind fun x_154 => (L2.atI r_116 x_147.1).bind fun x_155 => some (decide ((x_154 + x_155) = x_119.2))).bind fun t_156 => if t_156 = true then (some ((x_147.1 : Int), ())).map fun y => (some y.1, y.2) else some (none, ()))).bind fun ys_157 => (appO g_146 ys_157.1).bind fun a_158 => some a_158).bind fun g_159 => some g_159
theorem q_sectors {rows_4 : (List (List Int))} {row_5 : (List Int)} {r : (List (List Int))} (h : p_sectors rows_4 row_5 = some r) : FJ F_sectors [.fz ((eT (eT PV.int)) rows_4), .fz ((eT PV.int) row_5)] (.own ((r).map (eT PV.int))) [.any, .any] := by
  unfold p_sectors at h
  exact fj_fn (R := (List (List Int))) (vR := (fun (r : (List (List Int))) => RF.own ((r).map (eT PV.int)))) (AR := (fun (r : (List (List Int))) => [.any, .any, .any, .any, .any, .any, .any, .any])) h (sj_bind fun r_116 hr_116 => (sj_par2 (ej_call (cj_v (ej_var rfl) trivial (cj_v (ej_var rfl) trivial cj_nil)) Wk.refl (q_greatest_shifts (rows_6 := rows_4) (row_7 := row_5) hr_116) trivial) (ej_lst vj_nil rfl) trivial trivial (sj_for (e := (eP2 PV.int PV.int)) (fun (g : (List (List Int))) => [.fz ((eT (eT PV.int)) rows_4), .fz ((eT PV.int) row_5), .fz ((eT PV.int) r_116), .own ((g).map (eT PV.int)), .any, .any, .any, .any]) (ij_enum (ej_var rfl) rfl) Wk.refl (fun x_119 g_146 => (gj_tp (gsj_cons gj_nm (gsj_cons gj_nm gsj_nil)))) (fun x_119 g_146 => (sj_last (sj_bind fun ys_157 hys_157 => (sj_bind fun a_158 ha_158 => (sj_expr (ej_appT (e := (eT PV.int)) (x := ys_157.1) (ej_n1F (ej_lcS (vs := [6, 7]) (e := (eP2 PV.int (eT PV.int))) (e' := PV.int) (AH := (fun (g : Unit) => [.fz ((eT (eT PV.int)) rows_4), .fz ((eT PV.int) row_5), .fz ((eT PV.int) r_116), .own ((g_146).map (eT PV.int)), .fz (PV.int x_119.1), .fz (PV.int x_119.2), .any, .any])) (fun (x_147 : (Int × (List Int))) (s_153 : Unit) => (L2.atI x_147.2 x_119.1).bind fun x_154 => (L2.atI r_116 x_147.1).bind fun x_155 => some (decide ((x_154 + x_155) = x_119.2))) (fun x_147 s_153 t_156 => t_156) (fun x_147 s_153 t_156 => [.fz ((eT (eT PV.int)) rows_4), .fz ((eT PV.int) row_5), .fz ((eT PV.int) r_116), .own ((g_146).map (eT PV.int)), .fz (PV.int x_119.1), .fz (PV.int x_119.2), .fz (PV.int x_147.1), .fz ((eT PV.int) x_147.2)]) (fun (x_147 : (Int × (List Int))) (s_153 : Unit) t_156 => some ((x_147.1 : Int), ())) (fun (z : Int) => RF.fz (PV.int z)) (fun x_147 s_153 t_156 => ()) (ij_enum (ej_var rfl) rfl) Wk.refl (fun x_147 s_153 => (gj_tp (gsj_cons gj_nm (gsj_cons gj_nm gsj_nil)))) (fun x_147 s_153 => (tjo_bind fun x_154 hx_154 => (tjo_bind fun x_155 hx_155 => (tjo_some (tj_wk (tj_of (ej_binF (ej_b0 (ej_binF (ej_pk rfl) (ej_pk rfl) trivial (opIx_T hx_154)) (ej_binF (ej_pk rfl) (ej_pk rfl) trivial (opIx_T hx_155)) rfl) (ej_pk rfl) trivial (opEq_q (a := ((x_154 + x_155) : Int)) (b := (x_119.2 : Int)) eqv_int rfl))) Wk.refl))))) (fun x_147 s_153 t_156 _ => (ejo_some (ej_wk (ej_var rfl) (.r (.r (.r (.r (.r (.r (.a (.a .nil)))))))) trivial))) (fun _ => trivial) (fun _ => rfl) (fun x_147 s_153 t_156 _ => (.r (.r (.r (.r (.r (.r (.a (.a .nil))))))))) (fun _ _ => rfl) hys_157) rfl) trivial rfl rfl rfl ha_158) (sj_endL (.r (.r (.r (.r (.a (.a (.r (.r .nil)))))))))))))) fun g_159 => (sj_last (sj_retF (o := g_159) (ej_mvL rfl) trivial (.a (.a (.a (.r (.r (.r (.r (.r .nil))))))))))))) Wk.refl
def p_far (one_161 : (List Int)) (other_162 : (List Int)) : Option Int := (if ((!(p_is_row_i2 one_161)) || ((!(p_are_integers one_161 (one_161.length : Int))) || (decide (one_161 = ([] : (List Int))) || (!(p_are_integers other_162 (one_161.length : Int)))))) = true then none else letQ (((one_161.zip other_162).map fun (x_168 : (Int × Int)) => ((x_168.1 - x_168.2) : Int)) : (List Int)) fun gaps_170 => (maxO gaps_170).bind fun m_171 => (minO gaps_170).bind fun m_172 => some (m_171 - m_172))
theorem q_far {one_161 : (List Int)} {other_162 : (List Int)} {r : Int} (h : p_far one_161 other_162 = some r) : FJ F_far [.fz ((eT PV.int) one_161), .fz ((eT PV.int) other_162)] (.fz (PV.int r)) [.any, .any] := by
  unfold p_far at h
  exact fj_fn (R := Int) (vR := (fun (r : Int) => RF.fz (PV.int r))) (AR := (fun (r : Int) => [.any, .any, .any, .any, .any])) h (sj_ifX (tj_or (tj_not (tj_of (ej_call (cj_v (ej_var rfl) trivial cj_nil) Wk.refl (q_is_row_i2 (thing_14 := one_161)) trivial))) (tj_or (tj_not (tj_of (ej_call (cj_v (ej_var rfl) trivial (cj_v (ej_n1F (ej_pk rfl) clLen_T) trivial cj_nil)) Wk.refl (q_are_integers (thing_44 := one_161) (many_45 := (one_161.length : Int))) trivial))) (tj_or (tj_of (ej_binF (ej_pk rfl) (ej_eq (ej_tup vj_nil rfl) rfl) trivial (opEq_q (a := (one_161 : (List Int))) (b := (([] : (List Int)) : (List Int))) (eqv_T eqv_int) rfl))) (tj_not (tj_of (ej_call (cj_v (ej_var rfl) trivial (cj_v (ej_n1F (ej_pk rfl) clLen_T) trivial cj_nil)) Wk.refl (q_are_integers (thing_44 := other_162) (many_45 := (one_161.length : Int))) trivial))) Wk.refl Wk.refl) Wk.refl Wk.refl) Wk.refl Wk.refl) sj_none (sj_skip (sj_setL (fun (z : (List Int)) => RF.own (z.map PV.int)) (ej_lc (vs := [3, 4]) (e := (eP2 PV.int PV.int)) (f := fun (x_168 : (Int × Int)) => (x_168.1 - x_168.2)) (e' := PV.int) (AH := [.fz ((eT PV.int) one_161), .fz ((eT PV.int) other_162), .any, .any, .any]) (r := fun (x_168 : (Int × Int)) => RF.fz (PV.int (x_168.1 - x_168.2))) (ij_zip2 (ej_var rfl) (ej_var rfl) rfl rfl) Wk.refl (fun x_168 => (gj_tp (gsj_cons gj_nm (gsj_cons gj_nm gsj_nil)))) (fun x_168 => (ej_b0 (ej_pk rfl) (ej_pk rfl) rfl)) (fun _ => trivial) (fun _ => rfl) (fun _ => (.r (.r (.r (.a (.a .nil))))))) (fun _ => trivial) fun gaps_170 => (sj_last (sj_bind fun m_171 hm_171 => (sj_bind fun m_172 hm_172 => (sj_retF (o := (m_171 - m_172)) (ej_b0 (ej_n1F (ej_pkL rfl) (clMax_L hm_171)) (ej_n1F (ej_pkL rfl) (clMin_L hm_172)) rfl) trivial (.a (.a (.a (.r (.r .nil)))))))))))) Wk.refl
def p_step_row (one_175 : (List Int)) (other_176 : (List Int)) (number_177 : Int) : Option (List Int) := (if ((!(p_is_row_i2 one_175)) || ((!(p_are_integers one_175 (one_175.length : Int))) || (!(p_are_integers other_176 (one_175.length : Int))))) = true then none else (if (!(p_is_integer number_177)) = true then none else some ((one_175.zip other_176).map fun (x_180 : (Int × Int)) => ((max x_180.1 (x_180.2 + number_177)) : Int))))
theorem q_step_row {one_175 : (List Int)} {other_176 : (List Int)} {number_177 : Int} {r : (List Int)} (h : p_step_row one_175 other_176 number_177 = some r) : FJ F_step_row [.fz ((eT PV.int) one_175), .fz ((eT PV.int) other_176), .fz (PV.int number_177)] (.fz ((eT PV.int) r)) [.any, .any, .any] := by
  unfold p_step_row at h
  exact fj_fn (R := (List Int)) (vR := (fun (r : (List Int)) => RF.fz ((eT PV.int) r))) (AR := (fun (r : (List Int)) => [.any, .any, .any, .any, .any])) h (sj_ifX (tj_or (tj_not (tj_of (ej_call (cj_v (ej_var rfl) trivial cj_nil) Wk.refl (q_is_row_i2 (thing_14 := one_175)) trivial))) (tj_or (tj_not (tj_of (ej_call (cj_v (ej_var rfl) trivial (cj_v (ej_n1F (ej_pk rfl) clLen_T) trivial cj_nil)) Wk.refl (q_are_integers (thing_44 := one_175) (many_45 := (one_175.length : Int))) trivial))) (tj_not (tj_of (ej_call (cj_v (ej_var rfl) trivial (cj_v (ej_n1F (ej_pk rfl) clLen_T) trivial cj_nil)) Wk.refl (q_are_integers (thing_44 := other_176) (many_45 := (one_175.length : Int))) trivial))) Wk.refl Wk.refl) Wk.refl Wk.refl) sj_none (sj_skip (sj_ifX (tj_not (tj_of (ej_call (cj_v (ej_var rfl) trivial cj_nil) Wk.refl (q_is_integer (thing_20 := number_177)) trivial))) sj_none (sj_skip (sj_last (sj_retF (o := ((one_175.zip other_176).map fun (x_180 : (Int × Int)) => ((max x_180.1 (x_180.2 + number_177)) : Int))) (ej_n1F (ej_lc (vs := [3, 4]) (e := (eP2 PV.int PV.int)) (f := fun (x_180 : (Int × Int)) => (max x_180.1 (x_180.2 + number_177))) (e' := PV.int) (AH := [.fz ((eT PV.int) one_175), .fz ((eT PV.int) other_176), .fz (PV.int number_177), .any, .any]) (r := fun (x_180 : (Int × Int)) => RF.fz (PV.int (max x_180.1 (x_180.2 + number_177)))) (ij_zip2 (ej_var rfl) (ej_var rfl) rfl rfl) Wk.refl (fun x_180 => (gj_tp (gsj_cons gj_nm (gsj_cons gj_nm gsj_nil)))) (fun x_180 => (ej_n2F (ej_pk rfl) (ej_b0 (ej_pk rfl) (ej_pk rfl) rfl) trivial rfl)) (fun _ => trivial) (fun _ => rfl) (fun _ => (.r (.r (.r (.a (.a .nil))))))) rfl) trivial (.a (.a (.a (.r (.r .nil))))))))))) Wk.refl
def p_plain_row (row_191 : (List Int)) : Option (List Int) := (mapO row_191 fun x_197 => (L2.atI row_191 (0 : Int)).bind fun x_200 => some ((x_197 - x_200) : Int)).bind fun ys_201 => some ys_201
theorem q_plain_row {row_191 : (List Int)} {r : (List Int)} (h : p_plain_row row_191 = some r) : FJ F_plain_row [.fz ((eT PV.int) row_191)] (.fz ((eT PV.int) r)) [.any] := by
  unfold p_plain_row at h
  exact fj_fn (R := (List Int)) (vR := (fun (r : (List Int)) => RF.fz ((eT PV.int) r))) (AR := (fun (r : (List Int)) => [.any, .any])) h (sj_last (sj_bind fun ys_201 hys_201 => (sj_retF (o := ys_201) (ej_n1F (ej_lcM (vs := [1]) (e := PV.int) (f := fun (x_197 : Int) => (L2.atI row_191 (0 : Int)).bind fun x_200 => some ((x_197 - x_200) : Int)) (e' := PV.int) (AH := [.fz ((eT PV.int) row_191), .any]) (rr := (fun (z : Int) => RF.fz (PV.int z))) (AC := fun _ _ => [.fz ((eT PV.int) row_191), .any]) (ij_seq (ej_var rfl) rfl) Wk.refl (fun x_197 => gj_nm) (fun x_197 => (ejo_bind fun x_200 hx_200 => (ejo_some (ej_wk (ej_b0 (ej_pk rfl) (ej_binF (ej_pk rfl) ej_c trivial (opIx_T hx_200)) rfl) (.r (.a .nil)) trivial)))) (fun _ => trivial) (fun _ => rfl) (fun _ _ => Wk.refl) hys_201) rfl) trivial (.a (.r .nil))))) Wk.refl
def p_kinks (one_183 : (List Int)) (other_184 : (List Int)) : Option (List (List Int)) := (if ((!(p_is_row_i2 one_183)) || (decide ((one_183.length : Int) = (0 : Int)) || ((!(p_are_integers one_183 (one_183.length : Int))) || (!(p_are_integers other_184 (one_183.length : Int)))))) = true then none else (setI ((one_183.zip other_184).map fun (x_206 : (Int × Int)) => ((x_206.1 - x_206.2) : Int))).bind fun z_208 => (mapO z_208 fun x_209 => (p_step_row one_183 other_184 x_209).bind fun r_213 => (p_plain_row r_213).bind fun r_214 => some (r_214 : (List Int))).bind fun ys_215 => some ys_215)
theorem q_kinks {one_183 : (List Int)} {other_184 : (List Int)} {r : (List (List Int))} (h : p_kinks one_183 other_184 = some r) : FJ F_kinks [.fz ((eT PV.int) one_183), .fz ((eT PV.int) other_184)] (.own ((r).map (eT PV.int))) [.any, .any] := by
  unfold p_kinks at h
  exact fj_fn (R := (List (List Int))) (vR := (fun (r : (List (List Int))) => RF.own ((r).map (eT PV.int)))) (AR := (fun (r : (List (List Int))) => [.any, .any, .any, .any, .any, .any])) h (sj_ifX (tj_or (tj_not (tj_of (ej_call (cj_v (ej_var rfl) trivial cj_nil) Wk.refl (q_is_row_i2 (thing_14 := one_183)) trivial))) (tj_or (tj_of (ej_binF (ej_n1F (ej_pk rfl) clLen_T) ej_c trivial (opEq_q (a := ((one_183.length : Int) : Int)) (b := ((0 : Int) : Int)) eqv_int rfl))) (tj_or (tj_not (tj_of (ej_call (cj_v (ej_var rfl) trivial (cj_v (ej_n1F (ej_pk rfl) clLen_T) trivial cj_nil)) Wk.refl (q_are_integers (thing_44 := one_183) (many_45 := (one_183.length : Int))) trivial))) (tj_not (tj_of (ej_call (cj_v (ej_var rfl) trivial (cj_v (ej_n1F (ej_pk rfl) clLen_T) trivial cj_nil)) Wk.refl (q_are_integers (thing_44 := other_184) (many_45 := (one_183.length : Int))) trivial))) Wk.refl Wk.refl) Wk.refl Wk.refl) Wk.refl Wk.refl) sj_none (sj_skip (sj_bind fun z_208 hz_208 => (sj_set (ej_n1O (ej_lc (vs := [3, 4]) (e := (eP2 PV.int PV.int)) (f := fun (x_206 : (Int × Int)) => (x_206.1 - x_206.2)) (e' := PV.int) (AH := [.fz ((eT PV.int) one_183), .fz ((eT PV.int) other_184), .any, .any, .any, .any]) (r := fun (x_206 : (Int × Int)) => RF.fz (PV.int (x_206.1 - x_206.2))) (ij_zip2 (ej_var rfl) (ej_var rfl) rfl rfl) Wk.refl (fun x_206 => (gj_tp (gsj_cons gj_nm (gsj_cons gj_nm gsj_nil)))) (fun x_206 => (ej_b0 (ej_pk rfl) (ej_pk rfl) rfl)) (fun _ => trivial) (fun _ => rfl) (fun _ => (.r (.r (.r (.a (.a (.r .nil)))))))) (clSS_iL hz_208)) trivial (sj_last (sj_bind fun ys_215 hys_215 => (sj_retF (o := ys_215) (ej_lcM (vs := [5]) (e := PV.int) (f := fun (x_209 : Int) => (p_step_row one_183 other_184 x_209).bind fun r_213 => (p_plain_row r_213).bind fun r_214 => some (r_214 : (List Int))) (e' := (eT PV.int)) (AH := [.fz ((eT PV.int) one_183), .fz ((eT PV.int) other_184), .fz ((eL PV.int) z_208), .any, .any, .any]) (rr := (fun (z : (List Int)) => RF.fz ((eT PV.int) z))) (AC := fun _ _ => [.fz ((eT PV.int) one_183), .fz ((eT PV.int) other_184), .fz ((eL PV.int) z_208), .any, .any, .any]) (ij_seq (ej_varL rfl) rfl) Wk.refl (fun x_209 => gj_nm) (fun x_209 => (ejo_bind fun r_213 hr_213 => (ejo_bind fun r_214 hr_214 => (ejo_some (ej_wk (ej_call (cj_v (ej_call (cj_v (ej_var rfl) trivial (cj_v (ej_var rfl) trivial (cj_v (ej_var rfl) trivial cj_nil))) Wk.refl (q_step_row (one_175 := one_183) (other_176 := other_184) (number_177 := x_209) hr_213) trivial) trivial cj_nil) Wk.refl (q_plain_row (row_191 := r_213) hr_214) trivial) (.r (.r (.r (.r (.r (.a .nil)))))) trivial))))) (fun _ => trivial) (fun _ => rfl) (fun _ _ => Wk.refl) hys_215) trivial (.a (.a (.a (.r (.r (.r .nil))))))))))))) Wk.refl
def p_is_within (thing_227 : Int) (low_228 : Int) (high_229 : Int) : Bool := ((p_is_integer thing_227) && (decide (low_228 ≤ thing_227) && decide (thing_227 ≤ high_229)))
theorem q_is_within {thing_227 : Int} {low_228 : Int} {high_229 : Int} : FJ F_is_within [.fz (PV.int thing_227), .fz (PV.int low_228), .fz (PV.int high_229)] (.fz (PV.bl (p_is_within thing_227 low_228 high_229))) [.any, .any, .any] :=
  fj_fn (R := Bool) (vR := (fun (r : Bool) => RF.fz (PV.bl r))) (AR := (fun (r : Bool) => [.any, .any, .any])) (m := some ((p_is_integer thing_227) && (decide (low_228 ≤ thing_227) && decide (thing_227 ≤ high_229)))) (o := p_is_within thing_227 low_228 high_229) rfl (sj_last (sj_retF (o := ((p_is_integer thing_227) && (decide (low_228 ≤ thing_227) && decide (thing_227 ≤ high_229)))) (ej_and (ej_call (cj_v (ej_var rfl) trivial cj_nil) Wk.refl (q_is_integer (thing_20 := thing_227)) trivial) (ej_chain (ej_pk rfl) (ej_pk rfl) trivial rfl (ej_pk rfl) trivial rfl Wk.refl) Wk.refl Wk.refl) trivial (.a (.a (.a .nil))))) Wk.refl
def p_is_lot (thing_223 : (List Int)) (many_224 : Int) : Option Bool := (if (!((thing_223.map fun (x_232 : Int) => ((p_is_within x_232 (0 : Int) (many_224 - (1 : Int))) : Bool)).all id)) = true then some false else some (((thing_223.zip (cutP thing_223 (some (1 : Int)) none)).map fun (x_234 : (Int × Int)) => (decide (x_234.1 < x_234.2) : Bool)).all id))
theorem q_is_lot {thing_223 : (List Int)} {many_224 : Int} {r : Bool} (h : p_is_lot thing_223 many_224 = some r) : FJ F_is_lot [.fz ((eT PV.int) thing_223), .fz (PV.int many_224)] (.fz (PV.bl r)) [.any, .any] := by
  unfold p_is_lot at h
  exact fj_fn (R := Bool) (vR := (fun (r : Bool) => RF.fz (PV.bl r))) (AR := (fun (r : Bool) => [.any, .any, .any, .any])) h (sj_ifX (tj_orP (tj_notT (tj_of (ej_n2F (ej_pk rfl) ej_c trivial rfl))) (tj_not (tj_of (ej_n1F (ej_lc (vs := [2]) (e := PV.int) (f := fun (x_232 : Int) => (p_is_within x_232 (0 : Int) (many_224 - (1 : Int)))) (e' := PV.bl) (AH := [.fz ((eT PV.int) thing_223), .fz (PV.int many_224), .any, .any]) (r := fun (x_232 : Int) => RF.fz (PV.bl (p_is_within x_232 (0 : Int) (many_224 - (1 : Int))))) (ij_seq (ej_var rfl) rfl) Wk.refl (fun x_232 => gj_nm) (fun x_232 => (ej_call (cj_v (ej_var rfl) trivial (cj_v ej_c trivial (cj_v (ej_b0 (ej_pk rfl) ej_c rfl) trivial cj_nil))) Wk.refl (q_is_within (thing_227 := x_232) (low_228 := (0 : Int)) (high_229 := (many_224 - (1 : Int)))) trivial)) (fun _ => trivial) (fun _ => rfl) (fun _ => (.r (.r (.a (.r .nil)))))) clAll_q)))) (sj_retF (o := false) ej_c trivial (.a (.a (.r (.r .nil))))) (sj_skip (sj_last (sj_retF (o := (((thing_223.zip (cutP thing_223 (some (1 : Int)) none)).map fun (x_234 : (Int × Int)) => (decide (x_234.1 < x_234.2) : Bool)).all id)) (ej_n1F (ej_lc (vs := [2, 3]) (e := (eP2 PV.int PV.int)) (f := fun (x_234 : (Int × Int)) => decide (x_234.1 < x_234.2)) (e' := PV.bl) (AH := [.fz ((eT PV.int) thing_223), .fz (PV.int many_224), .any, .any]) (r := fun (x_234 : (Int × Int)) => RF.fz (PV.bl (decide (x_234.1 < x_234.2)))) (ij_zip2 (ej_var rfl) (ej_slF (ej_pk rfl) (oj_some ej_c) oj_none trivial opSl_T) rfl rfl) Wk.refl (fun x_234 => (gj_tp (gsj_cons gj_nm (gsj_cons gj_nm gsj_nil)))) (fun x_234 => (ej_binF (ej_pk rfl) (ej_pk rfl) trivial rfl)) (fun _ => trivial) (fun _ => rfl) (fun _ => (.r (.r (.a (.a .nil)))))) clAll_q) trivial (.a (.a (.r (.r .nil)))))))) Wk.refl
def p_check_lot (thing_221 : (List Int)) (many_222 : Int) : Option Unit := (p_is_lot thing_221 many_222).bind fun r_237 => (if (!r_237) = true then none else some ())
theorem q_check_lot {thing_221 : (List Int)} {many_222 : Int} {r : Unit} (h : p_check_lot thing_221 many_222 = some r) : FJ F_check_lot [.fz ((eT PV.int) thing_221), .fz (PV.int many_222)] (.fz (eU r)) [.any, .any] := by
  unfold p_check_lot at h
  exact fj_fn (R := Unit) (vR := (fun (r : Unit) => RF.fz (eU r))) (AR := (fun (r : Unit) => [.any, .any])) h (sj_last (sj_bind fun r_237 hr_237 => (sj_ifX (tj_not (tj_of (ej_call (cj_v (ej_var rfl) trivial (cj_v (ej_var rfl) trivial cj_nil)) Wk.refl (q_is_lot (thing_223 := thing_221) (many_224 := many_222) hr_237) trivial))) sj_none (sj_skip (sj_endF rfl (.a (.a .nil))))))) Wk.refl
def p_is_row_i3 (thing_251 : (List (List Int))) : Bool := true
theorem q_is_row_i3 {thing_251 : (List (List Int))} : FJ F_is_row [.ls ((thing_251).map (eT PV.int))] (.fz (PV.bl (p_is_row_i3 thing_251))) [.any] :=
  fj_fn (R := Bool) (vR := (fun (r : Bool) => RF.fz (PV.bl r))) (AR := (fun (r : Bool) => [.any])) (m := some true) (o := p_is_row_i3 thing_251) rfl (sj_last (sj_retF (o := true) (ej_n2F (ej_pkS rfl) (ej_tup (vj_consE ej_c trivial rfl (vj_consE ej_c trivial rfl vj_nil)) rfl) rfl rfl) trivial (.a .nil))) Wk.refl
def p_check_makers_i2 (rows_250 : (List (List Int))) : Option Unit := (if ((!(p_is_row_i3 rows_250)) || (!(decide ((1 : Int) ≤ (rows_250.length : Int)) && decide ((rows_250.length : Int) ≤ (8 : Int))))) = true then none else (forG rows_250 (() : Unit) fun x_266 g_273 => (if (!(p_is_row_i2 x_266)) = true then some true else (if (!(decide ((1 : Int) ≤ (x_266.length : Int)) && decide ((x_266.length : Int) ≤ (8 : Int)))) = true then some true else (L2.atI rows_250 (0 : Int)).bind fun x_274 => some (!decide ((x_266.length : Int) = (x_274.length : Int)))).bind fun t_275 => some t_275).bind fun t_276 => (if t_276 = true then none else (if (!((x_266.map fun (x_277 : Int) => ((p_is_integer x_277) : Bool)).all id)) = true then none else some ()))).bind fun g_279 => some ())
theorem q_check_makers_i2 {rows_250 : (List (List Int))} {r : Unit} (h : p_check_makers_i2 rows_250 = some r) : FJ F_check_makers [.ls ((rows_250).map (eT PV.int))] (.fz (eU r)) [.any] := by
  unfold p_check_makers_i2 at h
  exact fj_fn (R := Unit) (vR := (fun (r : Unit) => RF.fz (eU r))) (AR := (fun (r : Unit) => [.any, .any, .any])) h (sj_ifX (tj_or (tj_not (tj_of (ej_call (cj_v (ej_varS rfl) trivial cj_nil) (.f .nil) (q_is_row_i3 (thing_251 := rows_250)) trivial))) (tj_not (tj_of (ej_chain ej_c (ej_n1F (ej_pk rfl) clLen_L) trivial rfl ej_c trivial rfl Wk.refl))) Wk.refl Wk.refl) sj_none (sj_skip (sj_last (sj_for (e := (eT PV.int)) (fun (g : Unit) => [.fz ((eL (eT PV.int)) rows_250), .any, .any]) (ij_seq (ej_var rfl) rfl) Wk.refl (fun x_266 g_273 => gj_nm) (fun x_266 g_273 => (sj_bind fun t_276 ht_276 => (sj_ifX (tjx_or (w0 := true) (ct := fun (z : Bool) => z) (BB := (fun (z : Bool) => [.fz ((eL (eT PV.int)) rows_250), .fz ((eT PV.int) x_266), .any])) (tj_not (tj_of (ej_call (cj_v (ej_var rfl) trivial cj_nil) Wk.refl (q_is_row_i2 (thing_14 := x_266)) trivial))) (tjo_bind fun t_275 ht_275 => (tjo_some (tjx_or (w0 := true) (ct := fun (z : Bool) => z) (BB := (fun (z : Bool) => [.fz ((eL (eT PV.int)) rows_250), .fz ((eT PV.int) x_266), .any])) (tj_not (tj_of (ej_chain ej_c (ej_n1F (ej_pk rfl) clLen_T) trivial rfl ej_c trivial rfl Wk.refl))) (tjo_bind fun x_274 hx_274 => (tjo_some (tj_of (ej_binF (ej_n1F (ej_pk rfl) clLen_T) (ej_n1F (ej_binF (ej_pk rfl) ej_c trivial (opIx_L hx_274)) clLen_T) trivial (opNe_q (a := ((x_266.length : Int) : Int)) (b := ((x_274.length : Int) : Int)) eqv_int rfl))))) rfl Wk.refl ht_275))) rfl Wk.refl ht_276) sj_none (sj_skip (sj_last (sj_ifX (tj_not (tj_of (ej_n1F (ej_lc (vs := [2]) (e := PV.int) (f := fun (x_277 : Int) => (p_is_integer x_277)) (e' := PV.bl) (AH := [.fz ((eL (eT PV.int)) rows_250), .fz ((eT PV.int) x_266), .any]) (r := fun (x_277 : Int) => RF.fz (PV.bl (p_is_integer x_277))) (ij_seq (ej_var rfl) rfl) Wk.refl (fun x_277 => gj_nm) (fun x_277 => (ej_call (cj_v (ej_var rfl) trivial cj_nil) Wk.refl (q_is_integer (thing_20 := x_277)) trivial)) (fun _ => trivial) (fun _ => rfl) (fun _ => (.r (.r (.a .nil))))) clAll_q))) sj_none (sj_skip (sj_endL (.r (.a (.r .nil))))))))))) fun g_279 => (sj_endF rfl (.a (.r (.r .nil)))))))) Wk.refl
def p_check_like_i2 (rows_248 : (List (List Int))) (row_249 : (List Int)) : Option Unit := (p_check_makers_i2 rows_248).bind fun r_282 => (L2.atI rows_248 (0 : Int)).bind fun x_283 => (if (!(p_are_integers row_249 (x_283.length : Int))) = true then none else some ())
theorem q_check_like_i2 {rows_248 : (List (List Int))} {row_249 : (List Int)} {r : Unit} (h : p_check_like_i2 rows_248 row_249 = some r) : FJ F_check_like [.ls ((rows_248).map (eT PV.int)), .fz ((eT PV.int) row_249)] (.fz (eU r)) [.any, .any] := by
  unfold p_check_like_i2 at h
  exact fj_fn (R := Unit) (vR := (fun (r : Unit) => RF.fz (eU r))) (AR := (fun (r : Unit) => [.any, .any])) h (sj_bind fun r_282 hr_282 => (sj_expr (ej_call (cj_v (ej_varS rfl) trivial cj_nil) (.f .nil) (q_check_makers_i2 (rows_250 := rows_248) hr_282) trivial) (sj_last (sj_bind fun x_283 hx_283 => (sj_ifX (tj_not (tj_of (ej_call (cj_v (ej_var rfl) trivial (cj_v (ej_n1F (ej_binF (ej_pk rfl) ej_c trivial (opIx_L hx_283)) clLen_T) trivial cj_nil)) Wk.refl (q_are_integers (thing_44 := row_249) (many_45 := (x_283.length : Int))) trivial))) sj_none (sj_skip (sj_endF rfl (.a (.a .nil))))))))) Wk.refl
def p_greatest_shifts_i2 (rows_246 : (List (List Int))) (row_247 : (List Int)) : Option (List Int) := (p_check_like_i2 rows_246 row_247).bind fun r_294 => (mapO rows_246 fun x_295 => (minO ((x_295.zip row_247).map fun (x_300 : (Int × Int)) => ((x_300.2 - x_300.1) : Int))).bind fun m_302 => some (m_302 : Int)).bind fun ys_303 => some ys_303
theorem q_greatest_shifts_i2 {rows_246 : (List (List Int))} {row_247 : (List Int)} {r : (List Int)} (h : p_greatest_shifts_i2 rows_246 row_247 = some r) : FJ F_greatest_shifts [.ls ((rows_246).map (eT PV.int)), .fz ((eT PV.int) row_247)] (.fz ((eT PV.int) r)) [.any, .any] := by
  unfold p_greatest_shifts_i2 at h
  exact fj_fn (R := (List Int)) (vR := (fun (r : (List Int)) => RF.fz ((eT PV.int) r))) (AR := (fun (r : (List Int)) => [.any, .any, .any, .any, .any])) h (sj_bind fun r_294 hr_294 => (sj_expr (ej_call (cj_v (ej_varS rfl) trivial (cj_v (ej_var rfl) trivial cj_nil)) (.f (.r .nil)) (q_check_like_i2 (rows_248 := rows_246) (row_249 := row_247) hr_294) trivial) (sj_last (sj_bind fun ys_303 hys_303 => (sj_retF (o := ys_303) (ej_n1F (ej_lcM (vs := [2]) (e := (eT PV.int)) (f := fun (x_295 : (List Int)) => (minO ((x_295.zip row_247).map fun (x_300 : (Int × Int)) => ((x_300.2 - x_300.1) : Int))).bind fun m_302 => some (m_302 : Int)) (e' := PV.int) (AH := [.fz ((eL (eT PV.int)) rows_246), .fz ((eT PV.int) row_247), .any, .any, .any]) (rr := (fun (z : Int) => RF.fz (PV.int z))) (AC := fun _ _ => [.fz ((eL (eT PV.int)) rows_246), .fz ((eT PV.int) row_247), .any, .any, .any]) (ij_seq (ej_var rfl) rfl) Wk.refl (fun x_295 => gj_nm) (fun x_295 => (ejo_bind fun m_302 hm_302 => (ejo_some (ej_wk (ej_n1F (ej_lc (vs := [3, 4]) (e := (eP2 PV.int PV.int)) (f := fun (x_300 : (Int × Int)) => (x_300.2 - x_300.1)) (e' := PV.int) (AH := [.fz ((eL (eT PV.int)) rows_246), .fz ((eT PV.int) row_247), .fz ((eT PV.int) x_295), .any, .any]) (r := fun (x_300 : (Int × Int)) => RF.fz (PV.int (x_300.2 - x_300.1))) (ij_zip2 (ej_var rfl) (ej_var rfl) rfl rfl) Wk.refl (fun x_300 => (gj_tp (gsj_cons gj_nm (gsj_cons gj_nm gsj_nil)))) (fun x_300 => (ej_b0 (ej_pk rfl) (ej_pk rfl) rfl)) (fun _ => trivial) (fun _ => rfl) (fun _ => (.r (.r (.r (.a (.a .nil))))))) (clMin_L hm_302)) (.r (.r (.a (.r (.r .nil))))) trivial)))) (fun _ => trivial) (fun _ => rfl) (fun _ _ => Wk.refl) hys_303) rfl) trivial (.a (.a (.r (.r (.r .nil)))))))))) Wk.refl
def p_made (rows_305 : (List (List Int))) (shifts_306 : (List Int)) : Option (List Int) := (p_check_makers_i2 rows_305).bind fun r_334 => (if (!(p_are_integers shifts_306 (rows_305.length : Int))) = true then none else letQ ((rows_305.zip shifts_306) : (List ((List Int) × Int))) fun pairs_335 => (L2.atI rows_305 (0 : Int)).bind fun x_336 => (rng1 (x_336.length : Int)).bind fun r_337 => (mapO r_337 fun x_346 => (mapO pairs_335 fun x_354 => (L2.atI x_354.1 x_346).bind fun x_357 => some ((x_357 + x_354.2) : Int)).bind fun ys_358 => (maxO ys_358).bind fun m_359 => some (m_359 : Int)).bind fun ys_360 => some ys_360)
theorem q_made {rows_305 : (List (List Int))} {shifts_306 : (List Int)} {r : (List Int)} (h : p_made rows_305 shifts_306 = some r) : FJ F_made [.ls ((rows_305).map (eT PV.int)), .fz ((eT PV.int) shifts_306)] (.fz ((eT PV.int) r)) [.any, .any] := by
  unfold p_made at h
  exact fj_fn (R := (List Int)) (vR := (fun (r : (List Int)) => RF.fz ((eT PV.int) r))) (AR := (fun (r : (List Int)) => [.any, .any, .any, .any, .any, .any])) h (sj_bind fun r_334 hr_334 => (sj_expr (ej_call (cj_v (ej_varS rfl) trivial cj_nil) (.f .nil) (q_check_makers_i2 (rows_250 := rows_305) hr_334) trivial) (sj_ifX (tj_not (tj_of (ej_call (cj_v (ej_var rfl) trivial (cj_v (ej_n1F (ej_pk rfl) clLen_L) trivial cj_nil)) Wk.refl (q_are_integers (thing_44 := shifts_306) (many_45 := (rows_305.length : Int))) trivial))) sj_none (sj_skip (sj_setL (fun (z : (List ((List Int) × Int))) => RF.own (z.map (eP2 (eT PV.int) PV.int))) (ej_lzip (ej_var rfl) (ej_var rfl) rfl rfl) (fun _ => trivial) fun pairs_335 => (sj_last (sj_bind fun x_336 hx_336 => (sj_bind fun r_337 hr_337 => (sj_bind fun ys_360 hys_360 => (sj_retF (o := ys_360) (ej_n1F (ej_lcM (vs := [3]) (e := PV.int) (f := fun (x_346 : Int) => (mapO pairs_335 fun x_354 => (L2.atI x_354.1 x_346).bind fun x_357 => some ((x_357 + x_354.2) : Int)).bind fun ys_358 => (maxO ys_358).bind fun m_359 => some (m_359 : Int)) (e' := PV.int) (AH := [.fz ((eL (eT PV.int)) rows_305), .fz ((eT PV.int) shifts_306), .ls ((pairs_335).map (eP2 (eT PV.int) PV.int)), .any, .any, .any]) (rr := (fun (z : Int) => RF.fz (PV.int z))) (AC := fun _ _ => [.fz ((eL (eT PV.int)) rows_305), .fz ((eT PV.int) shifts_306), .ls ((pairs_335).map (eP2 (eT PV.int) PV.int)), .any, .any, .any]) (ij_rng1 (ej_n1F (ej_binF (ej_pk rfl) ej_c trivial (opIx_L hx_336)) clLen_T) hr_337) (.r (.r (.o (.r (.r (.r .nil)))))) (fun x_346 => gj_nm) (fun x_346 => (ejo_bind fun ys_358 hys_358 => (ejo_bind fun m_359 hm_359 => (ejo_some (ej_wk (ej_n1F (ej_lcM (vs := [4, 5]) (e := (eP2 (eT PV.int) PV.int)) (f := fun (x_354 : ((List Int) × Int)) => (L2.atI x_354.1 x_346).bind fun x_357 => some ((x_357 + x_354.2) : Int)) (e' := PV.int) (AH := [.fz ((eL (eT PV.int)) rows_305), .fz ((eT PV.int) shifts_306), .fz ((eL (eP2 (eT PV.int) PV.int)) pairs_335), .fz (PV.int x_346), .any, .any]) (rr := (fun (z : Int) => RF.fz (PV.int z))) (AC := fun _ _ => [.fz ((eL (eT PV.int)) rows_305), .fz ((eT PV.int) shifts_306), .fz ((eL (eP2 (eT PV.int) PV.int)) pairs_335), .fz (PV.int x_346), .any, .any]) (ij_seq (ej_varS rfl) rfl) Wk.refl (fun x_354 => (gj_tp (gsj_cons gj_nm (gsj_cons gj_nm gsj_nil)))) (fun x_354 => (ejo_bind fun x_357 hx_357 => (ejo_some (ej_wk (ej_b0 (ej_binF (ej_pk rfl) (ej_pk rfl) trivial (opIx_T hx_357)) (ej_pk rfl) rfl) (.r (.r (.r (.r (.a (.a .nil)))))) trivial)))) (fun _ => trivial) (fun _ => rfl) (fun _ _ => Wk.refl) hys_358) (clMax_L hm_359)) (.r (.r (.f (.a (.r (.r .nil)))))) trivial))))) (fun _ => trivial) (fun _ => rfl) (fun _ _ => Wk.refl) hys_360) rfl) trivial (.a (.a (.a (.r (.r (.r .nil)))))))))))))))) Wk.refl
def p_is_in_span (rows_244 : (List (List Int))) (row_245 : (List Int)) : Option Bool := (p_greatest_shifts_i2 rows_244 row_245).bind fun r_362 => (p_made rows_244 r_362).bind fun r_363 => some (decide (r_363 = row_245))
theorem q_is_in_span {rows_244 : (List (List Int))} {row_245 : (List Int)} {r : Bool} (h : p_is_in_span rows_244 row_245 = some r) : FJ F_is_in_span [.ls ((rows_244).map (eT PV.int)), .fz ((eT PV.int) row_245)] (.fz (PV.bl r)) [.any, .any] := by
  unfold p_is_in_span at h
  exact fj_fn (R := Bool) (vR := (fun (r : Bool) => RF.fz (PV.bl r))) (AR := (fun (r : Bool) => [.any, .any])) h (sj_last (sj_bind fun r_362 hr_362 => (sj_bind fun r_363 hr_363 => (sj_retF (o := decide (r_363 = row_245)) (ej_binF (ej_call (cj_v (ej_varS rfl) trivial (cj_v (ej_call (cj_v (ej_var rfl) trivial (cj_v (ej_var rfl) trivial cj_nil)) (.f (.r .nil)) (q_greatest_shifts_i2 (rows_246 := rows_244) (row_247 := row_245) hr_362) trivial) trivial cj_nil)) (.f (.r .nil)) (q_made (rows_305 := rows_244) (shifts_306 := r_362) hr_363) trivial) (ej_n1F (ej_pk rfl) rfl) trivial (opEq_q (a := (r_363 : (List Int))) (b := (row_245 : (List Int))) (eqv_T eqv_int) rfl)) trivial (.a (.a .nil)))))) Wk.refl
def p_is_inner (rows_217 : (List (List Int))) (row_218 : (List Int)) (lot_219 : (List Int)) : Option Bool := (p_check_like rows_217 row_218).bind fun r_366 => (p_check_lot lot_219 (rows_217.length : Int)).bind fun r_367 => (if (!decide (lot_219 = ([] : (List Int)))) = true then (mapO lot_219 fun x_368 => (L2.atI rows_217 x_368).bind fun x_371 => some (x_371 : (List Int))).bind fun ys_372 => (p_is_in_span ys_372 row_218).bind fun r_373 => some r_373 else some false).bind fun t_374 => some t_374
theorem q_is_inner {rows_217 : (List (List Int))} {row_218 : (List Int)} {lot_219 : (List Int)} {r : Bool} (h : p_is_inner rows_217 row_218 lot_219 = some r) : FJ F_is_inner [.fz ((eT (eT PV.int)) rows_217), .fz ((eT PV.int) row_218), .fz ((eT PV.int) lot_219)] (.fz (PV.bl r)) [.any, .any, .any] := by
  unfold p_is_inner at h
  exact fj_fn (R := Bool) (vR := (fun (r : Bool) => RF.fz (PV.bl r))) (AR := (fun (r : Bool) => [.any, .any, .any, .any])) h (sj_bind fun r_366 hr_366 => (sj_expr (ej_call (cj_v (ej_var rfl) trivial (cj_v (ej_var rfl) trivial cj_nil)) Wk.refl (q_check_like (rows_8 := rows_217) (row_9 := row_218) hr_366) trivial) (sj_bind fun r_367 hr_367 => (sj_expr (ej_call (cj_v (ej_var rfl) trivial (cj_v (ej_n1F (ej_pk rfl) clLen_T) trivial cj_nil)) Wk.refl (q_check_lot (thing_221 := lot_219) (many_222 := (rows_217.length : Int)) hr_367) trivial) (sj_last (sj_bind fun t_374 ht_374 => (sj_retF (o := t_374) (ejx_and (w0 := false) (rr := fun (z : Bool) => RF.fz (PV.bl z)) (BB := (fun (z : Bool) => [.fz ((eT (eT PV.int)) rows_217), .fz ((eT PV.int) row_218), .fz ((eT PV.int) lot_219), .any])) (ej_binF (ej_pk rfl) (ej_eq (ej_tup vj_nil rfl) rfl) trivial (opNe_q (a := (lot_219 : (List Int))) (b := (([] : (List Int)) : (List Int))) (eqv_T eqv_int) rfl)) (ejo_bind fun ys_372 hys_372 => (ejo_bind fun r_373 hr_373 => (ejo_some (ej_wk (ej_call (cj_v (ej_lcM (vs := [3]) (e := PV.int) (f := fun (x_368 : Int) => (L2.atI rows_217 x_368).bind fun x_371 => some (x_371 : (List Int))) (e' := (eT PV.int)) (AH := [.fz ((eT (eT PV.int)) rows_217), .fz ((eT PV.int) row_218), .fz ((eT PV.int) lot_219), .any]) (rr := (fun (z : (List Int)) => RF.fz ((eT PV.int) z))) (AC := fun _ _ => [.fz ((eT (eT PV.int)) rows_217), .fz ((eT PV.int) row_218), .fz ((eT PV.int) lot_219), .any]) (ij_seq (ej_var rfl) rfl) Wk.refl (fun x_368 => gj_nm) (fun x_368 => (ejo_bind fun x_371 hx_371 => (ejo_some (ej_wk (ej_binF (ej_pk rfl) (ej_pk rfl) trivial (opIx_T hx_371)) (.r (.r (.r (.a .nil)))) trivial)))) (fun _ => trivial) (fun _ => rfl) (fun _ _ => Wk.refl) hys_372) trivial (cj_v (ej_var rfl) trivial cj_nil)) (.o (.r .nil)) (q_is_in_span (rows_244 := ys_372) (row_245 := row_218) hr_373) trivial) Wk.refl trivial)))) rfl Wk.refl ht_374) trivial (.a (.a (.a (.r .nil))))))))))) Wk.refl
def p__law_makers (hand_382 : (List PV)) (wide_383 : Int) : Option ((List (List Int)) × (List PV)) := (drawQ hand_382 (3 : Int)).bind fun d_418 => (rng1 ((1 : Int) + d_418.1)).bind fun r_419 => (lcT r_419 d_418.2 fun x_420 s_431 => (rng1 wide_383).bind fun r_442 => (lcT r_442 s_431 fun x_443 s_446 => (drawQ s_446 (9 : Int)).bind fun d_449 => some (((d_449.1 - (3 : Int)) : Int), d_449.2)).bind fun ys_450 => some ((ys_450.1 : (List Int)), ys_450.2)).bind fun ys_451 => some (ys_451.1, ys_451.2)
theorem q__law_makers {hand_382 : (List PV)} {wide_383 : Int} {r : ((List (List Int)) × (List PV))} (h : p__law_makers hand_382 wide_383 = some r) : FJ F__law_makers [.own hand_382, .fz (PV.int wide_383)] (.fz ((eT (eT PV.int)) r.1)) [.own r.2, .any] := by
  unfold p__law_makers at h
  exact fj_fn (R := ((List (List Int)) × (List PV))) (vR := (fun (r : ((List (List Int)) × (List PV))) => RF.fz ((eT (eT PV.int)) r.1))) (AR := (fun (r : ((List (List Int)) × (List PV))) => [.own r.2, .any, .any, .any])) h (sj_last (sj_bind fun d_418 hd_418 => (sj_bind fun r_419 hr_419 => (sj_bind fun ys_451 hys_451 => (sj_retF (o := (ys_451.1, ys_451.2)) (ej_n1F (ej_lcT (vs := [2]) (e := PV.int) (me := fun (x_420 : Int) (s_431 : (List PV)) => (rng1 wide_383).bind fun r_442 => (lcT r_442 s_431 fun x_443 s_446 => (drawQ s_446 (9 : Int)).bind fun d_449 => some (((d_449.1 - (3 : Int)) : Int), d_449.2)).bind fun ys_450 => some ((ys_450.1 : (List Int)), ys_450.2)) (e' := (eT PV.int)) (AH := (fun (g : (List PV)) => [.own g, .fz (PV.int wide_383), .any, .any])) (rr := (fun (z : (List Int)) => RF.fz ((eT PV.int) z))) (ij_rng1 (ej_b0 ej_c (ej_call (cj_b rfl (cj_v ej_c trivial cj_nil)) Wk.refl (q__law_draw hd_418) trivial) rfl) hr_419) Wk.refl (fun x_420 s_431 => gj_nm) (fun x_420 s_431 => (ejo_bind fun r_442 hr_442 => (ejo_bind fun ys_450 hys_450 => (ejo_some (ej_wk (ej_n1F (ej_lcT (vs := [3]) (e := PV.int) (me := fun (x_443 : Int) (s_446 : (List PV)) => (drawQ s_446 (9 : Int)).bind fun d_449 => some (((d_449.1 - (3 : Int)) : Int), d_449.2)) (e' := PV.int) (AH := (fun (g : (List PV)) => [.own g, .fz (PV.int wide_383), .fz (PV.int x_420), .any])) (rr := (fun (z : Int) => RF.fz (PV.int z))) (ij_rng1 (ej_pk rfl) hr_442) Wk.refl (fun x_443 s_446 => gj_nm) (fun x_443 s_446 => (ejo_bind fun d_449 hd_449 => (ejo_some (ej_wk (ej_b0 (ej_call (cj_b rfl (cj_v ej_c trivial cj_nil)) Wk.refl (q__law_draw hd_449) trivial) ej_c rfl) (.r (.r (.r (.a .nil)))) trivial)))) (fun _ => trivial) (fun _ => rfl) hys_450) rfl) (.r (.r (.a (.r .nil)))) trivial))))) (fun _ => trivial) (fun _ => rfl) hys_451) rfl) trivial (.r (.a (.r (.r .nil))))))))) Wk.refl
def p__law_shifts (makers_465 : (List (List Int))) (row_466 : (List Int)) : Option (List Int) := (mapO makers_465 fun x_476 => (minO ((x_476.zip row_466).map fun (x_481 : (Int × Int)) => ((x_481.2 - x_481.1) : Int))).bind fun m_483 => some (m_483 : Int)).bind fun ys_484 => some ys_484
theorem q__law_shifts {makers_465 : (List (List Int))} {row_466 : (List Int)} {r : (List Int)} (h : p__law_shifts makers_465 row_466 = some r) : FJ F__law_shifts [.fz ((eT (eT PV.int)) makers_465), .fz ((eT PV.int) row_466)] (.fz ((eT PV.int) r)) [.any, .any] := by
  unfold p__law_shifts at h
  exact fj_fn (R := (List Int)) (vR := (fun (r : (List Int)) => RF.fz ((eT PV.int) r))) (AR := (fun (r : (List Int)) => [.any, .any, .any, .any, .any])) h (sj_last (sj_bind fun ys_484 hys_484 => (sj_retF (o := ys_484) (ej_n1F (ej_lcM (vs := [2]) (e := (eT PV.int)) (f := fun (x_476 : (List Int)) => (minO ((x_476.zip row_466).map fun (x_481 : (Int × Int)) => ((x_481.2 - x_481.1) : Int))).bind fun m_483 => some (m_483 : Int)) (e' := PV.int) (AH := [.fz ((eT (eT PV.int)) makers_465), .fz ((eT PV.int) row_466), .any, .any, .any]) (rr := (fun (z : Int) => RF.fz (PV.int z))) (AC := fun _ _ => [.fz ((eT (eT PV.int)) makers_465), .fz ((eT PV.int) row_466), .any, .any, .any]) (ij_seq (ej_var rfl) rfl) Wk.refl (fun x_476 => gj_nm) (fun x_476 => (ejo_bind fun m_483 hm_483 => (ejo_some (ej_wk (ej_n1F (ej_lc (vs := [3, 4]) (e := (eP2 PV.int PV.int)) (f := fun (x_481 : (Int × Int)) => (x_481.2 - x_481.1)) (e' := PV.int) (AH := [.fz ((eT (eT PV.int)) makers_465), .fz ((eT PV.int) row_466), .fz ((eT PV.int) x_476), .any, .any]) (r := fun (x_481 : (Int × Int)) => RF.fz (PV.int (x_481.2 - x_481.1))) (ij_zip2 (ej_var rfl) (ej_var rfl) rfl rfl) Wk.refl (fun x_481 => (gj_tp (gsj_cons gj_nm (gsj_cons gj_nm gsj_nil)))) (fun x_481 => (ej_b0 (ej_pk rfl) (ej_pk rfl) rfl)) (fun _ => trivial) (fun _ => rfl) (fun _ => (.r (.r (.r (.a (.a .nil))))))) (clMin_L hm_483)) (.r (.r (.a (.r (.r .nil))))) trivial)))) (fun _ => trivial) (fun _ => rfl) (fun _ _ => Wk.refl) hys_484) rfl) trivial (.a (.a (.r (.r (.r .nil)))))))) Wk.refl
def p__law_made (makers_486 : (List (List Int))) (shifts_487 : (List Int)) : Option (List Int) := (L2.atI makers_486 (0 : Int)).bind fun x_516 => (rng1 (x_516.length : Int)).bind fun r_517 => (forG r_517 (([] : (List Int)) : (List Int)) fun x_518 g_535 => (mapO (makers_486.zip shifts_487) fun x_536 => (L2.atI x_536.1 x_518).bind fun x_539 => some ((x_539 + x_536.2) : Int)).bind fun ys_540 => (maxO ys_540).bind fun m_541 => (appO g_535 m_541).bind fun a_542 => some a_542).bind fun g_543 => some g_543
theorem q__law_made {makers_486 : (List (List Int))} {shifts_487 : (List Int)} {r : (List Int)} (h : p__law_made makers_486 shifts_487 = some r) : FJ F__law_made [.fz ((eT (eT PV.int)) makers_486), .fz ((eT PV.int) shifts_487)] (.fz ((eT PV.int) r)) [.any, .any] := by
  unfold p__law_made at h
  exact fj_fn (R := (List Int)) (vR := (fun (r : (List Int)) => RF.fz ((eT PV.int) r))) (AR := (fun (r : (List Int)) => [.any, .any, .any, .any, .any, .any])) h (sj_set (ej_lst vj_nil rfl) trivial (sj_bind fun x_516 hx_516 => (sj_bind fun r_517 hr_517 => (sj_for (e := PV.int) (fun (g : (List Int)) => [.fz ((eT (eT PV.int)) makers_486), .fz ((eT PV.int) shifts_487), .own ((g).map PV.int), .any, .any, .any]) (ij_rng1 (ej_n1F (ej_binF (ej_pk rfl) ej_c trivial (opIx_T hx_516)) clLen_T) hr_517) Wk.refl (fun x_518 g_535 => gj_nm) (fun x_518 g_535 => (sj_last (sj_bind fun ys_540 hys_540 => (sj_bind fun m_541 hm_541 => (sj_bind fun a_542 ha_542 => (sj_expr (ej_appT (e := PV.int) (x := m_541) (ej_n1F (ej_lcM (vs := [4, 5]) (e := (eP2 (eT PV.int) PV.int)) (f := fun (x_536 : ((List Int) × Int)) => (L2.atI x_536.1 x_518).bind fun x_539 => some ((x_539 + x_536.2) : Int)) (e' := PV.int) (AH := [.fz ((eT (eT PV.int)) makers_486), .fz ((eT PV.int) shifts_487), .own ((g_535).map PV.int), .fz (PV.int x_518), .any, .any]) (rr := (fun (z : Int) => RF.fz (PV.int z))) (AC := fun _ _ => [.fz ((eT (eT PV.int)) makers_486), .fz ((eT PV.int) shifts_487), .own ((g_535).map PV.int), .fz (PV.int x_518), .any, .any]) (ij_zip2 (ej_var rfl) (ej_var rfl) rfl rfl) Wk.refl (fun x_536 => (gj_tp (gsj_cons gj_nm (gsj_cons gj_nm gsj_nil)))) (fun x_536 => (ejo_bind fun x_539 hx_539 => (ejo_some (ej_wk (ej_b0 (ej_binF (ej_pk rfl) (ej_pk rfl) trivial (opIx_T hx_539)) (ej_pk rfl) rfl) (.r (.r (.r (.r (.a (.a .nil)))))) trivial)))) (fun _ => trivial) (fun _ => rfl) (fun _ _ => Wk.refl) hys_540) (clMax_L hm_541)) trivial rfl rfl rfl ha_542) (sj_endL (.r (.r (.r (.a (.r (.r .nil))))))))))))) fun g_543 => (sj_last (sj_retF (o := g_543) (ej_n1F (ej_pkL rfl) rfl) trivial (.a (.a (.a (.r (.r (.r .nil)))))))))))) Wk.refl
def p__law_near (makers_463 : (List (List Int))) (row_464 : (List Int)) : Option (List Int) := (p__law_shifts makers_463 row_464).bind fun r_545 => (p__law_made makers_463 r_545).bind fun r_546 => some r_546
theorem q__law_near {makers_463 : (List (List Int))} {row_464 : (List Int)} {r : (List Int)} (h : p__law_near makers_463 row_464 = some r) : FJ F__law_near [.fz ((eT (eT PV.int)) makers_463), .fz ((eT PV.int) row_464)] (.fz ((eT PV.int) r)) [.any, .any] := by
  unfold p__law_near at h
  exact fj_fn (R := (List Int)) (vR := (fun (r : (List Int)) => RF.fz ((eT PV.int) r))) (AR := (fun (r : (List Int)) => [.any, .any])) h (sj_last (sj_bind fun r_545 hr_545 => (sj_bind fun r_546 hr_546 => (sj_retF (o := r_546) (ej_call (cj_v (ej_var rfl) trivial (cj_v (ej_call (cj_v (ej_var rfl) trivial (cj_v (ej_var rfl) trivial cj_nil)) Wk.refl (q__law_shifts (makers_465 := makers_463) (row_466 := row_464) hr_545) trivial) trivial cj_nil)) Wk.refl (q__law_made (makers_486 := makers_463) (shifts_487 := r_545) hr_546) trivial) trivial (.a (.a .nil)))))) Wk.refl
def p_cut_by (rows_624 : (List (List Int))) (row_625 : (List Int)) : Option (List (List Int)) := (p_greatest_shifts rows_624 row_625).bind fun r_661 => (forG (rows_624.zip r_661) (([] : (List (List Int))) : (List (List Int))) fun x_664 g_685 => (lcS (enumQ 0 row_625) () (fun x_686 s_690 => ((L2.atI x_664.1 x_686.1).bind fun x_691 => some (decide ((x_691 + x_664.2) = x_686.2))).bind fun t_692 => if t_692 = true then (some ((x_686.1 : Int), ())).map fun y => (some y.1, y.2) else some (none, ()))).bind fun ys_693 => (appO g_685 ys_693.1).bind fun a_694 => some a_694).bind fun g_695 => some g_695
theorem q_cut_by {rows_624 : (List (List Int))} {row_625 : (List Int)} {r : (List (List Int))} (h : p_cut_by rows_624 row_625 = some r) : FJ F_cut_by [.fz ((eT (eT PV.int)) rows_624), .fz ((eT PV.int) row_625)] (.own ((r).map (eT PV.int))) [.any, .any] := by
  unfold p_cut_by at h
  exact fj_fn (R := (List (List Int))) (vR := (fun (r : (List (List Int))) => RF.own ((r).map (eT PV.int)))) (AR := (fun (r : (List (List Int))) => [.any, .any, .any, .any, .any, .any, .any, .any])) h (sj_bind fun r_661 hr_661 => (sj_par2 (ej_call (cj_v (ej_var rfl) trivial (cj_v (ej_var rfl) trivial cj_nil)) Wk.refl (q_greatest_shifts (rows_6 := rows_624) (row_7 := row_625) hr_661) trivial) (ej_lst vj_nil rfl) trivial trivial (sj_for (e := (eP2 (eT PV.int) PV.int)) (fun (g : (List (List Int))) => [.fz ((eT (eT PV.int)) rows_624), .fz ((eT PV.int) row_625), .fz ((eT PV.int) r_661), .own ((g).map (eT PV.int)), .any, .any, .any, .any]) (ij_zip2 (ej_var rfl) (ej_var rfl) rfl rfl) Wk.refl (fun x_664 g_685 => (gj_tp (gsj_cons gj_nm (gsj_cons gj_nm gsj_nil)))) (fun x_664 g_685 => (sj_last (sj_bind fun ys_693 hys_693 => (sj_bind fun a_694 ha_694 => (sj_expr (ej_appT (e := (eT PV.int)) (x := ys_693.1) (ej_n1F (ej_lcS (vs := [6, 7]) (e := (eP2 PV.int PV.int)) (e' := PV.int) (AH := (fun (g : Unit) => [.fz ((eT (eT PV.int)) rows_624), .fz ((eT PV.int) row_625), .fz ((eT PV.int) r_661), .own ((g_685).map (eT PV.int)), .fz ((eT PV.int) x_664.1), .fz (PV.int x_664.2), .any, .any])) (fun (x_686 : (Int × Int)) (s_690 : Unit) => (L2.atI x_664.1 x_686.1).bind fun x_691 => some (decide ((x_691 + x_664.2) = x_686.2))) (fun x_686 s_690 t_692 => t_692) (fun x_686 s_690 t_692 => [.fz ((eT (eT PV.int)) rows_624), .fz ((eT PV.int) row_625), .fz ((eT PV.int) r_661), .own ((g_685).map (eT PV.int)), .fz ((eT PV.int) x_664.1), .fz (PV.int x_664.2), .fz (PV.int x_686.1), .fz (PV.int x_686.2)]) (fun (x_686 : (Int × Int)) (s_690 : Unit) t_692 => some ((x_686.1 : Int), ())) (fun (z : Int) => RF.fz (PV.int z)) (fun x_686 s_690 t_692 => ()) (ij_enum (ej_var rfl) rfl) Wk.refl (fun x_686 s_690 => (gj_tp (gsj_cons gj_nm (gsj_cons gj_nm gsj_nil)))) (fun x_686 s_690 => (tjo_bind fun x_691 hx_691 => (tjo_some (tj_wk (tj_of (ej_binF (ej_b0 (ej_binF (ej_pk rfl) (ej_pk rfl) trivial (opIx_T hx_691)) (ej_pk rfl) rfl) (ej_pk rfl) trivial (opEq_q (a := ((x_691 + x_664.2) : Int)) (b := (x_686.2 : Int)) eqv_int rfl))) Wk.refl)))) (fun x_686 s_690 t_692 _ => (ejo_some (ej_wk (ej_var rfl) (.r (.r (.r (.r (.r (.r (.a (.a .nil)))))))) trivial))) (fun _ => trivial) (fun _ => rfl) (fun x_686 s_690 t_692 _ => (.r (.r (.r (.r (.r (.r (.a (.a .nil))))))))) (fun _ _ => rfl) hys_693) rfl) trivial rfl rfl rfl ha_694) (sj_endL (.r (.r (.r (.r (.a (.a (.r (.r .nil)))))))))))))) fun g_695 => (sj_last (sj_retF (o := g_695) (ej_mvL rfl) trivial (.a (.a (.a (.r (.r (.r (.r (.r .nil))))))))))))) Wk.refl
def p_made_i2 (rows_702 : (List (List Int))) (shifts_703 : (List Int)) : Option (List Int) := (p_check_makers rows_702).bind fun r_731 => (if (!(p_are_integers shifts_703 (rows_702.length : Int))) = true then none else letQ ((rows_702.zip shifts_703) : (List ((List Int) × Int))) fun pairs_732 => (L2.atI rows_702 (0 : Int)).bind fun x_733 => (rng1 (x_733.length : Int)).bind fun r_734 => (mapO r_734 fun x_743 => (mapO pairs_732 fun x_751 => (L2.atI x_751.1 x_743).bind fun x_754 => some ((x_754 + x_751.2) : Int)).bind fun ys_755 => (maxO ys_755).bind fun m_756 => some (m_756 : Int)).bind fun ys_757 => some ys_757)
theorem q_made_i2 {rows_702 : (List (List Int))} {shifts_703 : (List Int)} {r : (List Int)} (h : p_made_i2 rows_702 shifts_703 = some r) : FJ F_made [.fz ((eT (eT PV.int)) rows_702), .fz ((eT PV.int) shifts_703)] (.fz ((eT PV.int) r)) [.any, .any] := by
  unfold p_made_i2 at h
  exact fj_fn (R := (List Int)) (vR := (fun (r : (List Int)) => RF.fz ((eT PV.int) r))) (AR := (fun (r : (List Int)) => [.any, .any, .any, .any, .any, .any])) h (sj_bind fun r_731 hr_731 => (sj_expr (ej_call (cj_v (ej_var rfl) trivial cj_nil) Wk.refl (q_check_makers (rows_10 := rows_702) hr_731) trivial) (sj_ifX (tj_not (tj_of (ej_call (cj_v (ej_var rfl) trivial (cj_v (ej_n1F (ej_pk rfl) clLen_T) trivial cj_nil)) Wk.refl (q_are_integers (thing_44 := shifts_703) (many_45 := (rows_702.length : Int))) trivial))) sj_none (sj_skip (sj_setL (fun (z : (List ((List Int) × Int))) => RF.own (z.map (eP2 (eT PV.int) PV.int))) (ej_lzip (ej_var rfl) (ej_var rfl) rfl rfl) (fun _ => trivial) fun pairs_732 => (sj_last (sj_bind fun x_733 hx_733 => (sj_bind fun r_734 hr_734 => (sj_bind fun ys_757 hys_757 => (sj_retF (o := ys_757) (ej_n1F (ej_lcM (vs := [3]) (e := PV.int) (f := fun (x_743 : Int) => (mapO pairs_732 fun x_751 => (L2.atI x_751.1 x_743).bind fun x_754 => some ((x_754 + x_751.2) : Int)).bind fun ys_755 => (maxO ys_755).bind fun m_756 => some (m_756 : Int)) (e' := PV.int) (AH := [.fz ((eT (eT PV.int)) rows_702), .fz ((eT PV.int) shifts_703), .ls ((pairs_732).map (eP2 (eT PV.int) PV.int)), .any, .any, .any]) (rr := (fun (z : Int) => RF.fz (PV.int z))) (AC := fun _ _ => [.fz ((eT (eT PV.int)) rows_702), .fz ((eT PV.int) shifts_703), .ls ((pairs_732).map (eP2 (eT PV.int) PV.int)), .any, .any, .any]) (ij_rng1 (ej_n1F (ej_binF (ej_pk rfl) ej_c trivial (opIx_T hx_733)) clLen_T) hr_734) (.r (.r (.o (.r (.r (.r .nil)))))) (fun x_743 => gj_nm) (fun x_743 => (ejo_bind fun ys_755 hys_755 => (ejo_bind fun m_756 hm_756 => (ejo_some (ej_wk (ej_n1F (ej_lcM (vs := [4, 5]) (e := (eP2 (eT PV.int) PV.int)) (f := fun (x_751 : ((List Int) × Int)) => (L2.atI x_751.1 x_743).bind fun x_754 => some ((x_754 + x_751.2) : Int)) (e' := PV.int) (AH := [.fz ((eT (eT PV.int)) rows_702), .fz ((eT PV.int) shifts_703), .fz ((eL (eP2 (eT PV.int) PV.int)) pairs_732), .fz (PV.int x_743), .any, .any]) (rr := (fun (z : Int) => RF.fz (PV.int z))) (AC := fun _ _ => [.fz ((eT (eT PV.int)) rows_702), .fz ((eT PV.int) shifts_703), .fz ((eL (eP2 (eT PV.int) PV.int)) pairs_732), .fz (PV.int x_743), .any, .any]) (ij_seq (ej_varS rfl) rfl) Wk.refl (fun x_751 => (gj_tp (gsj_cons gj_nm (gsj_cons gj_nm gsj_nil)))) (fun x_751 => (ejo_bind fun x_754 hx_754 => (ejo_some (ej_wk (ej_b0 (ej_binF (ej_pk rfl) (ej_pk rfl) trivial (opIx_T hx_754)) (ej_pk rfl) rfl) (.r (.r (.r (.r (.a (.a .nil)))))) trivial)))) (fun _ => trivial) (fun _ => rfl) (fun _ _ => Wk.refl) hys_755) (clMax_L hm_756)) (.r (.r (.f (.a (.r (.r .nil)))))) trivial))))) (fun _ => trivial) (fun _ => rfl) (fun _ _ => Wk.refl) hys_757) rfl) trivial (.a (.a (.a (.r (.r (.r .nil)))))))))))))))) Wk.refl
def p_is_in_span_i2 (rows_699 : (List (List Int))) (row_700 : (List Int)) : Option Bool := (p_greatest_shifts rows_699 row_700).bind fun r_759 => (p_made_i2 rows_699 r_759).bind fun r_760 => some (decide (r_760 = row_700))
theorem q_is_in_span_i2 {rows_699 : (List (List Int))} {row_700 : (List Int)} {r : Bool} (h : p_is_in_span_i2 rows_699 row_700 = some r) : FJ F_is_in_span [.fz ((eT (eT PV.int)) rows_699), .fz ((eT PV.int) row_700)] (.fz (PV.bl r)) [.any, .any] := by
  unfold p_is_in_span_i2 at h
  exact fj_fn (R := Bool) (vR := (fun (r : Bool) => RF.fz (PV.bl r))) (AR := (fun (r : Bool) => [.any, .any])) h (sj_last (sj_bind fun r_759 hr_759 => (sj_bind fun r_760 hr_760 => (sj_retF (o := decide (r_760 = row_700)) (ej_binF (ej_call (cj_v (ej_var rfl) trivial (cj_v (ej_call (cj_v (ej_var rfl) trivial (cj_v (ej_var rfl) trivial cj_nil)) Wk.refl (q_greatest_shifts (rows_6 := rows_699) (row_7 := row_700) hr_759) trivial) trivial cj_nil)) Wk.refl (q_made_i2 (rows_702 := rows_699) (shifts_703 := r_759) hr_760) trivial) (ej_n1F (ej_pk rfl) rfl) trivial (opEq_q (a := (r_760 : (List Int))) (b := (row_700 : (List Int))) (eqv_T eqv_int) rfl)) trivial (.a (.a .nil)))))) Wk.refl
def p__law_lots (many_764 : Int) : Option (List (List Int)) := (rng1 many_764).bind fun r_789 => (forG r_789 (([[]] : (List (List Int))) : (List (List Int))) fun x_790 g_805 => (mapO g_805 fun x_806 => (catO x_806 ([x_790])).bind fun c_809 => some (c_809 : (List Int))).bind fun ys_810 => (catO g_805 ys_810).bind fun c_811 => some c_811).bind fun g_812 => some (sortT g_812)
theorem q__law_lots {many_764 : Int} {r : (List (List Int))} (h : p__law_lots many_764 = some r) : FJ F__law_lots [.fz (PV.int many_764)] (.own ((r).map (eT PV.int))) [.any] := by
  unfold p__law_lots at h
  exact fj_fn (R := (List (List Int))) (vR := (fun (r : (List (List Int))) => RF.own ((r).map (eT PV.int)))) (AR := (fun (r : (List (List Int))) => [.any, .any, .any, .any])) h (sj_set (ej_lst (vj_consE (ej_tup vj_nil rfl) trivial rfl vj_nil) rfl) trivial (sj_bind fun r_789 hr_789 => (sj_for (e := PV.int) (fun (g : (List (List Int))) => [.fz (PV.int many_764), .own ((g).map (eT PV.int)), .any, .any]) (ij_rng1 (ej_pk rfl) hr_789) Wk.refl (fun x_790 g_805 => gj_nm) (fun x_790 g_805 => (sj_last (sj_bind fun ys_810 hys_810 => (sj_bind fun c_811 hc_811 => (sj_set (ej_binZ (ej_pkL rfl) (ej_lcM (vs := [3]) (e := (eT PV.int)) (f := fun (x_806 : (List Int)) => (catO x_806 ([x_790])).bind fun c_809 => some (c_809 : (List Int))) (e' := (eT PV.int)) (AH := [.fz (PV.int many_764), .fz ((eL (eT PV.int)) g_805), .fz (PV.int x_790), .any]) (rr := (fun (z : (List Int)) => RF.fz ((eT PV.int) z))) (AC := fun _ _ => [.fz (PV.int many_764), .fz ((eL (eT PV.int)) g_805), .fz (PV.int x_790), .any]) (ij_seq (ej_varL rfl) rfl) Wk.refl (fun x_806 => gj_nm) (fun x_806 => (ejo_bind fun c_809 hc_809 => (ejo_some (ej_wk (ej_b0 (ej_pk rfl) (ej_tup (vj_consE (ej_var rfl) trivial rfl vj_nil) rfl) (opAdd_T hc_809)) (.r (.r (.r (.a .nil)))) trivial)))) (fun _ => trivial) (fun _ => rfl) (fun _ _ => Wk.refl) hys_810) rfl (opAdd_L hc_811)) trivial (sj_endL (.r (.r (.a (.r .nil)))))))))) fun g_812 => (sj_last (sj_retF (o := (sortT g_812)) (ej_n1O (ej_pkL rfl) clSorted2_T) trivial (.a (.a (.r (.r .nil))))))))) Wk.refl
def p__law_any (hand_816 : (List PV)) (things_817 : (List (List Int))) : Option ((List Int) × (List PV)) := (drawQ hand_816 (things_817.length : Int)).bind fun d_820 => (L2.atI things_817 d_820.1).bind fun x_821 => some (x_821, d_820.2)
theorem q__law_any {hand_816 : (List PV)} {things_817 : (List (List Int))} {r : ((List Int) × (List PV))} (h : p__law_any hand_816 things_817 = some r) : FJ F__law_any [.own hand_816, .ls ((things_817).map (eT PV.int))] (.fz ((eT PV.int) r.1)) [.own r.2, .any] := by
  unfold p__law_any at h
  exact fj_fn (R := ((List Int) × (List PV))) (vR := (fun (r : ((List Int) × (List PV))) => RF.fz ((eT PV.int) r.1))) (AR := (fun (r : ((List Int) × (List PV))) => [.own r.2, .any])) h (sj_last (sj_bind fun d_820 hd_820 => (sj_bind fun x_821 hx_821 => (sj_retF (o := (x_821, d_820.2)) (ej_binF (ej_pkS rfl) (ej_call (cj_b rfl (cj_v (ej_n1F (ej_pkS rfl) clLen_L) trivial cj_nil)) Wk.refl (q__law_draw hd_820) trivial) rfl (opIx_L hx_821)) trivial (.r (.a .nil)))))) Wk.refl
def p__law_shifts_i2 (makers_831 : (List (List Int))) (row_832 : (List Int)) : Option (List Int) := (mapO makers_831 fun x_842 => (minO ((x_842.zip row_832).map fun (x_847 : (Int × Int)) => ((x_847.2 - x_847.1) : Int))).bind fun m_849 => some (m_849 : Int)).bind fun ys_850 => some ys_850
theorem q__law_shifts_i2 {makers_831 : (List (List Int))} {row_832 : (List Int)} {r : (List Int)} (h : p__law_shifts_i2 makers_831 row_832 = some r) : FJ F__law_shifts [.ls ((makers_831).map (eT PV.int)), .fz ((eT PV.int) row_832)] (.fz ((eT PV.int) r)) [.any, .any] := by
  unfold p__law_shifts_i2 at h
  exact fj_fn (R := (List Int)) (vR := (fun (r : (List Int)) => RF.fz ((eT PV.int) r))) (AR := (fun (r : (List Int)) => [.any, .any, .any, .any, .any])) h (sj_last (sj_bind fun ys_850 hys_850 => (sj_retF (o := ys_850) (ej_n1F (ej_lcM (vs := [2]) (e := (eT PV.int)) (f := fun (x_842 : (List Int)) => (minO ((x_842.zip row_832).map fun (x_847 : (Int × Int)) => ((x_847.2 - x_847.1) : Int))).bind fun m_849 => some (m_849 : Int)) (e' := PV.int) (AH := [.fz ((eL (eT PV.int)) makers_831), .fz ((eT PV.int) row_832), .any, .any, .any]) (rr := (fun (z : Int) => RF.fz (PV.int z))) (AC := fun _ _ => [.fz ((eL (eT PV.int)) makers_831), .fz ((eT PV.int) row_832), .any, .any, .any]) (ij_seq (ej_varS rfl) rfl) Wk.refl (fun x_842 => gj_nm) (fun x_842 => (ejo_bind fun m_849 hm_849 => (ejo_some (ej_wk (ej_n1F (ej_lc (vs := [3, 4]) (e := (eP2 PV.int PV.int)) (f := fun (x_847 : (Int × Int)) => (x_847.2 - x_847.1)) (e' := PV.int) (AH := [.fz ((eL (eT PV.int)) makers_831), .fz ((eT PV.int) row_832), .fz ((eT PV.int) x_842), .any, .any]) (r := fun (x_847 : (Int × Int)) => RF.fz (PV.int (x_847.2 - x_847.1))) (ij_zip2 (ej_var rfl) (ej_var rfl) rfl rfl) Wk.refl (fun x_847 => (gj_tp (gsj_cons gj_nm (gsj_cons gj_nm gsj_nil)))) (fun x_847 => (ej_b0 (ej_pk rfl) (ej_pk rfl) rfl)) (fun _ => trivial) (fun _ => rfl) (fun _ => (.r (.r (.r (.a (.a .nil))))))) (clMin_L hm_849)) (.r (.r (.a (.r (.r .nil))))) trivial)))) (fun _ => trivial) (fun _ => rfl) (fun _ _ => Wk.refl) hys_850) rfl) trivial (.a (.a (.r (.r (.r .nil)))))))) Wk.refl
def p__law_made_i2 (makers_852 : (List (List Int))) (shifts_853 : (List Int)) : Option (List Int) := (L2.atI makers_852 (0 : Int)).bind fun x_882 => (rng1 (x_882.length : Int)).bind fun r_883 => (forG r_883 (([] : (List Int)) : (List Int)) fun x_884 g_901 => (mapO (makers_852.zip shifts_853) fun x_902 => (L2.atI x_902.1 x_884).bind fun x_905 => some ((x_905 + x_902.2) : Int)).bind fun ys_906 => (maxO ys_906).bind fun m_907 => (appO g_901 m_907).bind fun a_908 => some a_908).bind fun g_909 => some g_909
theorem q__law_made_i2 {makers_852 : (List (List Int))} {shifts_853 : (List Int)} {r : (List Int)} (h : p__law_made_i2 makers_852 shifts_853 = some r) : FJ F__law_made [.ls ((makers_852).map (eT PV.int)), .fz ((eT PV.int) shifts_853)] (.fz ((eT PV.int) r)) [.any, .any] := by
  unfold p__law_made_i2 at h
  exact fj_fn (R := (List Int)) (vR := (fun (r : (List Int)) => RF.fz ((eT PV.int) r))) (AR := (fun (r : (List Int)) => [.any, .any, .any, .any, .any, .any])) h (sj_set (ej_lst vj_nil rfl) trivial (sj_bind fun x_882 hx_882 => (sj_bind fun r_883 hr_883 => (sj_for (e := PV.int) (fun (g : (List Int)) => [.ls ((makers_852).map (eT PV.int)), .fz ((eT PV.int) shifts_853), .own ((g).map PV.int), .any, .any, .any]) (ij_rng1 (ej_n1F (ej_binF (ej_pkS rfl) ej_c rfl (opIx_L hx_882)) clLen_T) hr_883) Wk.refl (fun x_884 g_901 => gj_nm) (fun x_884 g_901 => (sj_last (sj_bind fun ys_906 hys_906 => (sj_bind fun m_907 hm_907 => (sj_bind fun a_908 ha_908 => (sj_expr (ej_appT (e := PV.int) (x := m_907) (ej_n1F (ej_lcM (vs := [4, 5]) (e := (eP2 (eT PV.int) PV.int)) (f := fun (x_902 : ((List Int) × Int)) => (L2.atI x_902.1 x_884).bind fun x_905 => some ((x_905 + x_902.2) : Int)) (e' := PV.int) (AH := [.fz ((eL (eT PV.int)) makers_852), .fz ((eT PV.int) shifts_853), .own ((g_901).map PV.int), .fz (PV.int x_884), .any, .any]) (rr := (fun (z : Int) => RF.fz (PV.int z))) (AC := fun _ _ => [.fz ((eL (eT PV.int)) makers_852), .fz ((eT PV.int) shifts_853), .own ((g_901).map PV.int), .fz (PV.int x_884), .any, .any]) (ij_zip2 (ej_varS rfl) (ej_var rfl) rfl rfl) Wk.refl (fun x_902 => (gj_tp (gsj_cons gj_nm (gsj_cons gj_nm gsj_nil)))) (fun x_902 => (ejo_bind fun x_905 hx_905 => (ejo_some (ej_wk (ej_b0 (ej_binF (ej_pk rfl) (ej_pk rfl) trivial (opIx_T hx_905)) (ej_pk rfl) rfl) (.r (.r (.r (.r (.a (.a .nil)))))) trivial)))) (fun _ => trivial) (fun _ => rfl) (fun _ _ => Wk.refl) hys_906) (clMax_L hm_907)) trivial rfl rfl rfl ha_908) (sj_endL (.f (.r (.r (.a (.r (.r .nil))))))))))))) fun g_909 => (sj_last (sj_retF (o := g_909) (ej_n1F (ej_pkL rfl) rfl) trivial (.a (.a (.a (.r (.r (.r .nil)))))))))))) Wk.refl
def p__law_near_i2 (makers_829 : (List (List Int))) (row_830 : (List Int)) : Option (List Int) := (p__law_shifts_i2 makers_829 row_830).bind fun r_911 => (p__law_made_i2 makers_829 r_911).bind fun r_912 => some r_912
theorem q__law_near_i2 {makers_829 : (List (List Int))} {row_830 : (List Int)} {r : (List Int)} (h : p__law_near_i2 makers_829 row_830 = some r) : FJ F__law_near [.ls ((makers_829).map (eT PV.int)), .fz ((eT PV.int) row_830)] (.fz ((eT PV.int) r)) [.any, .any] := by
  unfold p__law_near_i2 at h
  exact fj_fn (R := (List Int)) (vR := (fun (r : (List Int)) => RF.fz ((eT PV.int) r))) (AR := (fun (r : (List Int)) => [.any, .any])) h (sj_last (sj_bind fun r_911 hr_911 => (sj_bind fun r_912 hr_912 => (sj_retF (o := r_912) (ej_call (cj_v (ej_varS rfl) trivial (cj_v (ej_call (cj_v (ej_var rfl) trivial (cj_v (ej_var rfl) trivial cj_nil)) (.f (.r .nil)) (q__law_shifts_i2 (makers_831 := makers_829) (row_832 := row_830) hr_911) trivial) trivial cj_nil)) (.f (.r .nil)) (q__law_made_i2 (makers_852 := makers_829) (shifts_853 := r_911) hr_912) trivial) trivial (.a (.a .nil)))))) Wk.refl
def p__law_any_i2 (hand_914 : (List PV)) (things_915 : (List (List Int))) : Option ((List Int) × (List PV)) := (drawQ hand_914 (things_915.length : Int)).bind fun d_918 => (L2.atI things_915 d_918.1).bind fun x_919 => some (x_919, d_918.2)
theorem q__law_any_i2 {hand_914 : (List PV)} {things_915 : (List (List Int))} {r : ((List Int) × (List PV))} (h : p__law_any_i2 hand_914 things_915 = some r) : FJ F__law_any [.own hand_914, .fz ((eT (eT PV.int)) things_915)] (.fz ((eT PV.int) r.1)) [.own r.2, .any] := by
  unfold p__law_any_i2 at h
  exact fj_fn (R := ((List Int) × (List PV))) (vR := (fun (r : ((List Int) × (List PV))) => RF.fz ((eT PV.int) r.1))) (AR := (fun (r : ((List Int) × (List PV))) => [.own r.2, .any])) h (sj_last (sj_bind fun d_918 hd_918 => (sj_bind fun x_919 hx_919 => (sj_retF (o := (x_919, d_918.2)) (ej_binF (ej_pk rfl) (ej_call (cj_b rfl (cj_v (ej_n1F (ej_pk rfl) clLen_T) trivial cj_nil)) Wk.refl (q__law_draw hd_918) trivial) trivial (opIx_T hx_919)) trivial (.r (.a .nil)))))) Wk.refl
def p_law (script_1 : (List Int)) : Option Bool := (handQ script_1).bind fun hand_1302 => letQ ((((0 : Int), (2 : Int)), ((1 : Int), (0 : Int))) : ((Int × Int) × (Int × Int))) fun known_1303 => (p_sectors ([[known_1303.1.1, known_1303.1.2], [known_1303.2.1, known_1303.2.2]]) ([(1 : Int), (1 : Int)])).bind fun r_1304 => (if (!decide (r_1304 = [[(1 : Int)], [(0 : Int)]])) = true then some true else (p_far ([(0 : Int), (5 : Int)]) ([(3 : Int), (1 : Int)])).bind fun r_1305 => some (!decide (r_1305 = (7 : Int)))).bind fun t_1306 => (if t_1306 = true then some false else (p_step_row ([(0 : Int), (5 : Int)]) ([(3 : Int), (1 : Int)]) (1 : Int)).bind fun r_1307 => (if (!decide (r_1307 = [(4 : Int), (5 : Int)])) = true then some false else (p_kinks ([(0 : Int), (5 : Int)]) ([(3 : Int), (1 : Int)])).bind fun r_1308 => (if (!decide ((sortT r_1308) = [[(0 : Int), (-(2 : Int))], [(0 : Int), (5 : Int)]])) = true then some true else (p_is_inner ([[known_1303.1.1, known_1303.1.2], [known_1303.2.1, known_1303.2.2]]) ([(1 : Int), (1 : Int)]) ([(0 : Int)])).bind fun r_1309 => some (!decide (r_1309 = false))).bind fun t_1310 => (if t_1310 = true then some false else (rng1 (5 : Int)).bind fun r_1311 => forR r_1311 (hand_1302 : (List PV)) (fun x_1312 g_1639 => (drawQ g_1639 (4 : Int)).bind fun d_1640 => letQ (((1 : Int) + d_1640.1) : Int) fun wide_1641 => (p__law_makers d_1640.2 wide_1641).bind fun r_1642 => (rng1 wide_1641).bind fun r_1643 => (lcT r_1643 r_1642.2 fun x_1644 s_1647 => (drawQ s_1647 (11 : Int)).bind fun d_1650 => some (((d_1650.1 - (4 : Int)) : Int), d_1650.2)).bind fun ys_1651 => (drawQ ys_1651.2 (2 : Int)).bind fun d_1652 => (if decide (d_1652.1 = (0 : Int)) = true then (p__law_near r_1642.1 ys_1651.1).bind fun r_1653 => some (r_1653 : (List Int)) else some (ys_1651.1 : (List Int))).bind fun q_1654 => (p__law_shifts r_1642.1 q_1654).bind fun r_1655 => (rng1 wide_1641).bind fun r_1656 => (forG r_1656 (([] : (List (List Int))) : (List (List Int))) fun x_1657 g_1690 => (lcS (enumQ 0 r_1642.1) () (fun x_1691 s_1699 => ((L2.atI x_1691.2 x_1657).bind fun x_1700 => (L2.atI r_1655 x_1691.1).bind fun x_1701 => (L2.atI q_1654 x_1657).bind fun x_1702 => some (decide ((x_1700 + x_1701) = x_1702))).bind fun t_1703 => if t_1703 = true then (some ((x_1691.1 : Int), ())).map fun y => (some y.1, y.2) else some (none, ()))).bind fun ys_1704 => (appO g_1690 ys_1704.1).bind fun a_1705 => some a_1705).bind fun g_1706 => (p_sectors r_1642.1 q_1654).bind fun r_1707 => (if (!decide (r_1707 = g_1706)) = true then some (Ou.rt false) else (rng1 (r_1642.1.length : Int)).bind fun r_1708 => (mapO r_1708 fun x_1709 => (rng1 wide_1641).bind fun r_1720 => (lcS r_1720 () (fun x_1721 s_1725 => ((L2.atI g_1706 x_1721).bind fun x_1726 => some (decide (x_1709 ∈ x_1726))).bind fun t_1727 => if t_1727 = true then (some ((x_1721 : Int), ())).map fun y => (some y.1, y.2) else some (none, ()))).bind fun ys_1728 => some (ys_1728.1 : (List Int))).bind fun ys_1729 => (p_cut_by r_1642.1 q_1654).bind fun r_1730 => (if ((!decide (r_1730 = ys_1729)) || (!((ys_1729.map fun (x_1731 : (List Int)) => ((!decide (x_1731 = ([] : (List Int)))) : Bool)).all id))) = true then some (Ou.rt false) else (p_is_in_span_i2 r_1642.1 q_1654).bind fun r_1733 => (if (!decide (r_1733 = ((g_1706.map fun (x_1734 : (List Int)) => ((!decide (x_1734 = ([] : (List Int)))) : Bool)).all id))) = true then some (Ou.rt false) else (p__law_lots (r_1642.1.length : Int)).bind fun r_1736 => (p__law_any d_1652.2 ((r_1736.filter fun (x_1737 : (List Int)) => (!decide (x_1737 = ([] : (List Int))))).map fun (x_1737 : (List Int)) => (x_1737 : (List Int)))).bind fun r_1739 => (mapO r_1739.1 fun x_1740 => (L2.atI r_1642.1 x_1740).bind fun x_1743 => some (x_1743 : (List Int))).bind fun ys_1744 => (p_is_inner r_1642.1 q_1654 r_1739.1).bind fun r_1745 => (p__law_near_i2 ys_1744 q_1654).bind fun r_1746 => (if (!decide (r_1745 = decide (r_1746 = q_1654))) = true then some (Ou.rt false) else (p__law_any_i2 r_1739.2 r_1642.1).bind fun r_1747 => (rng1 wide_1641).bind fun r_1748 => (lcT r_1748 r_1747.2 fun x_1749 s_1752 => (drawQ s_1752 (11 : Int)).bind fun d_1755 => some (((d_1755.1 - (4 : Int)) : Int), d_1755.2)).bind fun ys_1756 => letQ (r_1747.1 : (List Int)) fun one_1757 => letQ (ys_1756.1 : (List Int)) fun other_1758 => letQ (((one_1757.zip other_1758).map fun (x_1759 : (Int × Int)) => ((x_1759.1 - x_1759.2) : Int)) : (List Int)) fun less_1761 => (p_far one_1757 other_1758).bind fun r_1762 => (maxO less_1761).bind fun m_1763 => (minO less_1761).bind fun m_1764 => (if (!decide (r_1762 = (m_1763 - m_1764))) = true then some true else (p_far other_1758 one_1757).bind fun r_1765 => (p_far one_1757 other_1758).bind fun r_1766 => some (!decide (r_1765 = r_1766))).bind fun t_1767 => (if t_1767 = true then some (Ou.rt false) else (drawQ ys_1756.2 (15 : Int)).bind fun d_1768 => letQ ((d_1768.1 - (7 : Int)) : Int) fun number_1769 => (p_step_row one_1757 other_1758 number_1769).bind fun r_1770 => (if (!decide (r_1770 = ((one_1757.zip other_1758).map fun (x_1771 : (Int × Int)) => ((max x_1771.1 (x_1771.2 + number_1769)) : Int)))) = true then some (Ou.rt false) else (setI less_1761).bind fun z_1773 => (forG z_1773 (([] : (List (List Int))) : (List (List Int))) fun x_1774 g_1785 => (p_plain_row ((one_1757.zip other_1758).map fun (x_1786 : (Int × Int)) => ((max x_1786.1 (x_1786.2 + x_1774)) : Int))).bind fun r_1788 => (appO g_1785 r_1788).bind fun a_1789 => some a_1789).bind fun g_1790 => (p_kinks one_1757 other_1758).bind fun r_1791 => (if (!decide ((sortT r_1791) = (sortT g_1790))) = true then some (Ou.rt false) else (mapO g_1790 fun x_1792 => (p_is_in_span ([one_1757, other_1758]) x_1792).bind fun r_1795 => some (r_1795 : Bool)).bind fun ys_1796 => (if (!(ys_1796.all id)) = true then some (Ou.rt false) else (L2.atI g_1790 (0 : Int)).bind fun x_1797 => (p_plain_row one_1757).bind fun r_1798 => (if (!decide (x_1797 = r_1798)) = true then some true else (L2.atI g_1790 (-(1 : Int))).bind fun x_1799 => (p_plain_row other_1758).bind fun r_1800 => some (!decide (x_1799 = r_1800))).bind fun t_1801 => (if t_1801 = true then some (Ou.rt false) else some (Ou.nx d_1768.2))))))))))) (fun r => r) fun g_1802 => some true)))
theorem q_law {script_1 : (List Int)} {r : Bool} (h : p_law script_1 = some r) : FJ F_law [.fz (eScr script_1)] (.fz (PV.bl r)) [.any] := by
  unfold p_law at h
  exact fj_fn (R := Bool) (vR := (fun (r : Bool) => RF.fz (PV.bl r))) (AR := (fun (r : Bool) => [.any, .any, .any, .any, .any, .any, .any, .any, .any, .any, .any, .any, .any, .any, .any, .any, .any, .any, .any, .any, .any, .any])) h (sj_bind fun hand_1302 hhand_1302 => (sj_set (ej_call (cj_v (ej_var rfl) trivial cj_nil) Wk.refl (q__law_hand hhand_1302) trivial) trivial (sj_setL (fun (z : ((Int × Int) × (Int × Int))) => RF.fz ((eP2 (eP2 PV.int PV.int) (eP2 PV.int PV.int)) z)) (ej_tup (vj_consE (ej_tup (vj_consE ej_c trivial rfl (vj_consE ej_c trivial rfl vj_nil)) rfl) trivial rfl (vj_consE (ej_tup (vj_consE ej_c trivial rfl (vj_consE ej_c trivial rfl vj_nil)) rfl) trivial rfl vj_nil)) rfl) (fun _ => trivial) fun known_1303 => (sj_bind fun r_1304 hr_1304 => (sj_bind fun t_1306 ht_1306 => (sj_ifX (tjx_or (w0 := true) (ct := fun (z : Bool) => z) (BB := (fun (z : Bool) => [.fz (eScr script_1), .own hand_1302, .fz ((eP2 (eP2 PV.int PV.int) (eP2 PV.int PV.int)) known_1303), .any, .any, .any, .any, .any, .any, .any, .any, .any, .any, .any, .any, .any, .any, .any, .any, .any, .any, .any])) (tj_of (ej_binF (ej_n1O (ej_call (cj_v (ej_eq (ej_var rfl) rfl) trivial (cj_v (ej_eq (ej_tup (vj_consE ej_c trivial rfl (vj_consE ej_c trivial rfl vj_nil)) rfl) rfl) trivial cj_nil)) Wk.refl (q_sectors (rows_4 := [[known_1303.1.1, known_1303.1.2], [known_1303.2.1, known_1303.2.2]]) (row_5 := [(1 : Int), (1 : Int)]) hr_1304) trivial) rfl) (ej_lst (vj_consE (ej_tup (vj_consE ej_c trivial rfl vj_nil) rfl) trivial rfl (vj_consE (ej_tup (vj_consE ej_c trivial rfl vj_nil) rfl) trivial rfl vj_nil)) rfl) trivial (opNe_q (a := (r_1304 : (List (List Int)))) (b := ([[(1 : Int)], [(0 : Int)]] : (List (List Int)))) (eqv_L (eqv_T eqv_int)) rfl))) (tjo_bind fun r_1305 hr_1305 => (tjo_some (tj_wk (tj_of (ej_binF (ej_call (cj_v (ej_eq (ej_tup (vj_consE ej_c trivial rfl (vj_consE ej_c trivial rfl vj_nil)) rfl) rfl) trivial (cj_v (ej_eq (ej_tup (vj_consE ej_c trivial rfl (vj_consE ej_c trivial rfl vj_nil)) rfl) rfl) trivial cj_nil)) Wk.refl (q_far (one_161 := [(0 : Int), (5 : Int)]) (other_162 := [(3 : Int), (1 : Int)]) hr_1305) trivial) ej_c trivial (opNe_q (a := (r_1305 : Int)) (b := ((7 : Int) : Int)) eqv_int rfl))) Wk.refl))) rfl Wk.refl ht_1306) (sj_retF (o := false) ej_c trivial (.a (.a (.a (.r (.r (.r (.r (.r (.r (.r (.r (.r (.r (.r (.r (.r (.r (.r (.r (.r (.r (.r .nil))))))))))))))))))))))) (sj_skip (sj_bind fun r_1307 hr_1307 => (sj_ifX (tj_of (ej_binF (ej_call (cj_v (ej_eq (ej_tup (vj_consE ej_c trivial rfl (vj_consE ej_c trivial rfl vj_nil)) rfl) rfl) trivial (cj_v (ej_eq (ej_tup (vj_consE ej_c trivial rfl (vj_consE ej_c trivial rfl vj_nil)) rfl) rfl) trivial (cj_v ej_c trivial cj_nil))) Wk.refl (q_step_row (one_175 := [(0 : Int), (5 : Int)]) (other_176 := [(3 : Int), (1 : Int)]) (number_177 := (1 : Int)) hr_1307) trivial) (ej_eq (ej_tup (vj_consE ej_c trivial rfl (vj_consE ej_c trivial rfl vj_nil)) rfl) rfl) trivial (opNe_q (a := (r_1307 : (List Int))) (b := ([(4 : Int), (5 : Int)] : (List Int))) (eqv_T eqv_int) rfl))) (sj_retF (o := false) ej_c trivial (.a (.a (.a (.r (.r (.r (.r (.r (.r (.r (.r (.r (.r (.r (.r (.r (.r (.r (.r (.r (.r (.r .nil))))))))))))))))))))))) (sj_skip (sj_bind fun r_1308 hr_1308 => (sj_bind fun t_1310 ht_1310 => (sj_ifX (tjx_or (w0 := true) (ct := fun (z : Bool) => z) (BB := (fun (z : Bool) => [.fz (eScr script_1), .own hand_1302, .fz ((eP2 (eP2 PV.int PV.int) (eP2 PV.int PV.int)) known_1303), .any, .any, .any, .any, .any, .any, .any, .any, .any, .any, .any, .any, .any, .any, .any, .any, .any, .any, .any])) (tj_of (ej_binF (ej_n1O (ej_call (cj_v (ej_eq (ej_tup (vj_consE ej_c trivial rfl (vj_consE ej_c trivial rfl vj_nil)) rfl) rfl) trivial (cj_v (ej_eq (ej_tup (vj_consE ej_c trivial rfl (vj_consE ej_c trivial rfl vj_nil)) rfl) rfl) trivial cj_nil)) Wk.refl (q_kinks (one_183 := [(0 : Int), (5 : Int)]) (other_184 := [(3 : Int), (1 : Int)]) hr_1308) trivial) clSorted2_T) (ej_lst (vj_consE (ej_tup (vj_consE ej_c trivial rfl (vj_consE (ej_neg ej_c) trivial rfl vj_nil)) rfl) trivial rfl (vj_consE (ej_tup (vj_consE ej_c trivial rfl (vj_consE ej_c trivial rfl vj_nil)) rfl) trivial rfl vj_nil)) rfl) trivial (opNe_q (a := ((sortT r_1308) : (List (List Int)))) (b := ([[(0 : Int), (-(2 : Int))], [(0 : Int), (5 : Int)]] : (List (List Int)))) (eqv_L (eqv_T eqv_int)) rfl))) (tjo_bind fun r_1309 hr_1309 => (tjo_some (tj_wk (tj_of (ej_binF (ej_call (cj_v (ej_eq (ej_var rfl) rfl) trivial (cj_v (ej_eq (ej_tup (vj_consE ej_c trivial rfl (vj_consE ej_c trivial rfl vj_nil)) rfl) rfl) trivial (cj_v (ej_tup (vj_consE ej_c trivial rfl vj_nil) rfl) trivial cj_nil))) Wk.refl (q_is_inner (rows_217 := [[known_1303.1.1, known_1303.1.2], [known_1303.2.1, known_1303.2.2]]) (row_218 := [(1 : Int), (1 : Int)]) (lot_219 := [(0 : Int)]) hr_1309) trivial) ej_c trivial rfl)) Wk.refl))) rfl Wk.refl ht_1310) (sj_retF (o := false) ej_c trivial (.a (.a (.a (.r (.r (.r (.r (.r (.r (.r (.r (.r (.r (.r (.r (.r (.r (.r (.r (.r (.r (.r .nil))))))))))))))))))))))) (sj_skip (sj_bind fun r_1311 hr_1311 => (sj_forR (e := PV.int) (vR := (fun (r : Bool) => RF.fz (PV.bl r))) (AR := (fun (r : Bool) => [.any, .any, .any, .any, .any, .any, .any, .any, .any, .any, .any, .any, .any, .any, .any, .any, .any, .any, .any, .any, .any, .any])) (fun (g : (List PV)) => [.fz (eScr script_1), .own g, .fz ((eP2 (eP2 PV.int PV.int) (eP2 PV.int PV.int)) known_1303), .any, .any, .any, .any, .any, .any, .any, .any, .any, .any, .any, .any, .any, .any, .any, .any, .any, .any, .any]) (ij_rng1 ej_c hr_1311) Wk.refl (fun x_1312 g_1639 => gj_nm) (fun x_1312 g_1639 => (sj_bind fun d_1640 hd_1640 => (sj_setL (fun (z : Int) => RF.fz (PV.int z)) (ej_b0 ej_c (ej_call (cj_b rfl (cj_v ej_c trivial cj_nil)) Wk.refl (q__law_draw hd_1640) trivial) rfl) (fun _ => trivial) fun wide_1641 => (sj_bind fun r_1642 hr_1642 => (sj_set (ej_call (cj_b rfl (cj_v (ej_var rfl) trivial cj_nil)) Wk.refl (q__law_makers (hand_382 := d_1640.2) (wide_383 := wide_1641) hr_1642) trivial) trivial (sj_bind fun r_1643 hr_1643 => (sj_bind fun ys_1651 hys_1651 => (sj_set (ej_n1F (ej_lcT (vs := [9]) (e := PV.int) (me := fun (x_1644 : Int) (s_1647 : (List PV)) => (drawQ s_1647 (11 : Int)).bind fun d_1650 => some (((d_1650.1 - (4 : Int)) : Int), d_1650.2)) (e' := PV.int) (AH := (fun (g : (List PV)) => [.fz (eScr script_1), .own g, .fz ((eP2 (eP2 PV.int PV.int) (eP2 PV.int PV.int)) known_1303), .fz (PV.int x_1312), .fz (PV.int wide_1641), .fz ((eT (eT PV.int)) r_1642.1), .any, .any, .any, .any, .any, .any, .any, .any, .any, .any, .any, .any, .any, .any, .any, .any])) (rr := (fun (z : Int) => RF.fz (PV.int z))) (ij_rng1 (ej_pk rfl) hr_1643) Wk.refl (fun x_1644 s_1647 => gj_nm) (fun x_1644 s_1647 => (ejo_bind fun d_1650 hd_1650 => (ejo_some (ej_wk (ej_b0 (ej_call (cj_b rfl (cj_v ej_c trivial cj_nil)) Wk.refl (q__law_draw hd_1650) trivial) ej_c rfl) (.r (.r (.r (.r (.r (.r (.r (.r (.r (.a (.r (.r (.r (.r (.r (.r (.r (.r (.r (.r (.r (.r .nil)))))))))))))))))))))) trivial)))) (fun _ => trivial) (fun _ => rfl) hys_1651) rfl) trivial (sj_bind fun d_1652 hd_1652 => (sj_bind fun q_1654 hq_1654 => (sj_set (ejx_if (rr := (fun (z : (List Int)) => RF.fz ((eT PV.int) z))) (BB := (fun (z : (List Int)) => [.fz (eScr script_1), .own d_1652.2, .fz ((eP2 (eP2 PV.int PV.int) (eP2 PV.int PV.int)) known_1303), .fz (PV.int x_1312), .fz (PV.int wide_1641), .fz ((eT (eT PV.int)) r_1642.1), .fz ((eT PV.int) ys_1651.1), .any, .any, .any, .any, .any, .any, .any, .any, .any, .any, .any, .any, .any, .any, .any])) (tj_of (ej_binF (ej_call (cj_b rfl (cj_v ej_c trivial cj_nil)) Wk.refl (q__law_draw hd_1652) trivial) ej_c trivial (opEq_q (a := (d_1652.1 : Int)) (b := ((0 : Int) : Int)) eqv_int rfl))) (ejo_bind fun r_1653 hr_1653 => (ejo_some (ej_call (cj_v (ej_var rfl) trivial (cj_v (ej_var rfl) trivial cj_nil)) Wk.refl (q__law_near (makers_463 := r_1642.1) (row_464 := ys_1651.1) hr_1653) trivial))) (ejo_some (ej_var rfl)) hq_1654) trivial (sj_bind fun r_1655 hr_1655 => (sj_set (ej_call (cj_v (ej_var rfl) trivial (cj_v (ej_var rfl) trivial cj_nil)) Wk.refl (q__law_shifts (makers_465 := r_1642.1) (row_466 := q_1654) hr_1655) trivial) trivial (sj_set (ej_lst vj_nil rfl) trivial (sj_bind fun r_1656 hr_1656 => (sj_for (e := PV.int) (fun (g : (List (List Int))) => [.fz (eScr script_1), .own d_1652.2, .fz ((eP2 (eP2 PV.int PV.int) (eP2 PV.int PV.int)) known_1303), .fz (PV.int x_1312), .fz (PV.int wide_1641), .fz ((eT (eT PV.int)) r_1642.1), .fz ((eT PV.int) q_1654), .fz ((eT PV.int) r_1655), .own ((g).map (eT PV.int)), .any, .any, .any, .any, .any, .any, .any, .any, .any, .any, .any, .any, .any]) (ij_rng1 (ej_pk rfl) hr_1656) Wk.refl (fun x_1657 g_1690 => gj_nm) (fun x_1657 g_1690 => (sj_last (sj_bind fun ys_1704 hys_1704 => (sj_bind fun a_1705 ha_1705 => (sj_expr (ej_appT (e := (eT PV.int)) (x := ys_1704.1) (ej_n1F (ej_lcS (vs := [18, 19]) (e := (eP2 PV.int (eT PV.int))) (e' := PV.int) (AH := (fun (g : Unit) => [.fz (eScr script_1), .own d_1652.2, .fz ((eP2 (eP2 PV.int PV.int) (eP2 PV.int PV.int)) known_1303), .fz (PV.int x_1312), .fz (PV.int wide_1641), .fz ((eT (eT PV.int)) r_1642.1), .fz ((eT PV.int) q_1654), .fz ((eT PV.int) r_1655), .own ((g_1690).map (eT PV.int)), .fz (PV.int x_1657), .any, .any, .any, .any, .any, .any, .any, .any, .any, .any, .any, .any])) (fun (x_1691 : (Int × (List Int))) (s_1699 : Unit) => (L2.atI x_1691.2 x_1657).bind fun x_1700 => (L2.atI r_1655 x_1691.1).bind fun x_1701 => (L2.atI q_1654 x_1657).bind fun x_1702 => some (decide ((x_1700 + x_1701) = x_1702))) (fun x_1691 s_1699 t_1703 => t_1703) (fun x_1691 s_1699 t_1703 => [.fz (eScr script_1), .own d_1652.2, .fz ((eP2 (eP2 PV.int PV.int) (eP2 PV.int PV.int)) known_1303), .fz (PV.int x_1312), .fz (PV.int wide_1641), .fz ((eT (eT PV.int)) r_1642.1), .fz ((eT PV.int) q_1654), .fz ((eT PV.int) r_1655), .own ((g_1690).map (eT PV.int)), .fz (PV.int x_1657), .any, .any, .any, .any, .any, .any, .any, .any, .fz (PV.int x_1691.1), .fz ((eT PV.int) x_1691.2), .any, .any]) (fun (x_1691 : (Int × (List Int))) (s_1699 : Unit) t_1703 => some ((x_1691.1 : Int), ())) (fun (z : Int) => RF.fz (PV.int z)) (fun x_1691 s_1699 t_1703 => ()) (ij_enum (ej_var rfl) rfl) Wk.refl (fun x_1691 s_1699 => (gj_tp (gsj_cons gj_nm (gsj_cons gj_nm gsj_nil)))) (fun x_1691 s_1699 => (tjo_bind fun x_1700 hx_1700 => (tjo_bind fun x_1701 hx_1701 => (tjo_bind fun x_1702 hx_1702 => (tjo_some (tj_wk (tj_of (ej_binF (ej_b0 (ej_binF (ej_pk rfl) (ej_pk rfl) trivial (opIx_T hx_1700)) (ej_binF (ej_pk rfl) (ej_pk rfl) trivial (opIx_T hx_1701)) rfl) (ej_binF (ej_pk rfl) (ej_pk rfl) trivial (opIx_T hx_1702)) trivial (opEq_q (a := ((x_1700 + x_1701) : Int)) (b := (x_1702 : Int)) eqv_int rfl))) Wk.refl)))))) (fun x_1691 s_1699 t_1703 _ => (ejo_some (ej_wk (ej_var rfl) (.r (.r (.r (.r (.r (.r (.r (.r (.r (.r (.r (.r (.r (.r (.r (.r (.r (.r (.a (.a (.r (.r .nil)))))))))))))))))))))) trivial))) (fun _ => trivial) (fun _ => rfl) (fun x_1691 s_1699 t_1703 _ => (.r (.r (.r (.r (.r (.r (.r (.r (.r (.r (.r (.r (.r (.r (.r (.r (.r (.r (.a (.a (.r (.r .nil))))))))))))))))))))))) (fun _ _ => rfl) hys_1704) rfl) trivial rfl rfl rfl ha_1705) (sj_endL (.r (.r (.r (.r (.r (.r (.r (.r (.r (.a (.r (.r (.r (.r (.r (.r (.r (.r (.r (.r (.r (.r .nil)))))))))))))))))))))))))))) fun g_1706 => (sj_bind fun r_1707 hr_1707 => (sj_ifX (tj_of (ej_binF (ej_n1O (ej_call (cj_v (ej_var rfl) trivial (cj_v (ej_var rfl) trivial cj_nil)) Wk.refl (q_sectors (rows_4 := r_1642.1) (row_5 := q_1654) hr_1707) trivial) rfl) (ej_pkL rfl) trivial (opNe_q (a := (r_1707 : (List (List Int)))) (b := (g_1706 : (List (List Int)))) (eqv_L (eqv_T eqv_int)) rfl))) (sj_retO (o := false) ej_c trivial (.a (.a (.a (.a (.a (.a (.a (.a (.a (.r (.r (.r (.r (.r (.r (.r (.r (.r (.r (.r (.r (.r .nil))))))))))))))))))))))) (sj_skip (sj_bind fun r_1708 hr_1708 => (sj_bind fun ys_1729 hys_1729 => (sj_set (ej_lcM (vs := [18]) (e := PV.int) (f := fun (x_1709 : Int) => (rng1 wide_1641).bind fun r_1720 => (lcS r_1720 () (fun x_1721 s_1725 => ((L2.atI g_1706 x_1721).bind fun x_1726 => some (decide (x_1709 ∈ x_1726))).bind fun t_1727 => if t_1727 = true then (some ((x_1721 : Int), ())).map fun y => (some y.1, y.2) else some (none, ()))).bind fun ys_1728 => some (ys_1728.1 : (List Int))) (e' := (eT PV.int)) (AH := [.fz (eScr script_1), .own d_1652.2, .fz ((eP2 (eP2 PV.int PV.int) (eP2 PV.int PV.int)) known_1303), .fz (PV.int x_1312), .fz (PV.int wide_1641), .fz ((eT (eT PV.int)) r_1642.1), .fz ((eT PV.int) q_1654), .fz ((eT PV.int) r_1655), .own ((g_1706).map (eT PV.int)), .any, .any, .any, .any, .any, .any, .any, .any, .any, .any, .any, .any, .any]) (rr := (fun (z : (List Int)) => RF.fz ((eT PV.int) z))) (AC := fun _ _ => [.fz (eScr script_1), .own d_1652.2, .fz ((eP2 (eP2 PV.int PV.int) (eP2 PV.int PV.int)) known_1303), .fz (PV.int x_1312), .fz (PV.int wide_1641), .fz ((eT (eT PV.int)) r_1642.1), .fz ((eT PV.int) q_1654), .fz ((eT PV.int) r_1655), .own ((g_1706).map (eT PV.int)), .any, .any, .any, .any, .any, .any, .any, .any, .any, .any, .any, .any, .any]) (ij_rng1 (ej_n1F (ej_pk rfl) clLen_T) hr_1708) Wk.refl (fun x_1709 => gj_nm) (fun x_1709 => (ejo_bind fun r_1720 hr_1720 => (ejo_bind fun ys_1728 hys_1728 => (ejo_some (ej_wk (ej_n1F (ej_lcS (vs := [9]) (e := PV.int) (e' := PV.int) (AH := (fun (g : Unit) => [.fz (eScr script_1), .own d_1652.2, .fz ((eP2 (eP2 PV.int PV.int) (eP2 PV.int PV.int)) known_1303), .fz (PV.int x_1312), .fz (PV.int wide_1641), .fz ((eT (eT PV.int)) r_1642.1), .fz ((eT PV.int) q_1654), .fz ((eT PV.int) r_1655), .own ((g_1706).map (eT PV.int)), .any, .any, .any, .any, .any, .any, .any, .any, .any, .fz (PV.int x_1709), .any, .any, .any])) (fun (x_1721 : Int) (s_1725 : Unit) => (L2.atI g_1706 x_1721).bind fun x_1726 => some (decide (x_1709 ∈ x_1726))) (fun x_1721 s_1725 t_1727 => t_1727) (fun x_1721 s_1725 t_1727 => [.fz (eScr script_1), .own d_1652.2, .fz ((eP2 (eP2 PV.int PV.int) (eP2 PV.int PV.int)) known_1303), .fz (PV.int x_1312), .fz (PV.int wide_1641), .fz ((eT (eT PV.int)) r_1642.1), .fz ((eT PV.int) q_1654), .fz ((eT PV.int) r_1655), .own ((g_1706).map (eT PV.int)), .fz (PV.int x_1721), .any, .any, .any, .any, .any, .any, .any, .any, .fz (PV.int x_1709), .any, .any, .any]) (fun (x_1721 : Int) (s_1725 : Unit) t_1727 => some ((x_1721 : Int), ())) (fun (z : Int) => RF.fz (PV.int z)) (fun x_1721 s_1725 t_1727 => ()) (ij_rng1 (ej_pk rfl) hr_1720) Wk.refl (fun x_1721 s_1725 => gj_nm) (fun x_1721 s_1725 => (tjo_bind fun x_1726 hx_1726 => (tjo_some (tj_wk (tj_of (ej_binF (ej_pk rfl) (ej_binF (ej_pkL rfl) (ej_pk rfl) rfl (opIx_L hx_1726)) trivial (opIn_T (a := (x_1709 : Int)) (xs := (x_1726 : (List Int))) eqv_int (fun _ => rfl)))) Wk.refl)))) (fun x_1721 s_1725 t_1727 _ => (ejo_some (ej_wk (ej_var rfl) (.r (.r (.r (.r (.r (.r (.r (.r (.r (.a (.r (.r (.r (.r (.r (.r (.r (.r (.r (.r (.r (.r .nil)))))))))))))))))))))) trivial))) (fun _ => trivial) (fun _ => rfl) (fun x_1721 s_1725 t_1727 _ => (.r (.r (.r (.r (.r (.r (.r (.r (.r (.a (.r (.r (.r (.r (.r (.r (.r (.r (.r (.r (.r (.r .nil))))))))))))))))))))))) (fun _ _ => rfl) hys_1728) rfl) (.r (.r (.r (.r (.r (.r (.r (.r (.r (.r (.r (.r (.r (.r (.r (.r (.r (.r (.a (.r (.r (.r .nil)))))))))))))))))))))) trivial))))) (fun _ => trivial) (fun _ => rfl) (fun _ _ => Wk.refl) hys_1729) trivial (sj_bind fun r_1730 hr_1730 => (sj_ifX (tj_or (tj_of (ej_binF (ej_n1O (ej_call (cj_v (ej_var rfl) trivial (cj_v (ej_var rfl) trivial cj_nil)) Wk.refl (q_cut_by (rows_624 := r_1642.1) (row_625 := q_1654) hr_1730) trivial) rfl) (ej_pkL rfl) trivial (opNe_q (a := (r_1730 : (List (List Int)))) (b := (ys_1729 : (List (List Int)))) (eqv_L (eqv_T eqv_int)) rfl))) (tj_not (tj_of (ej_n1F (ej_lc (vs := [11]) (e := (eT PV.int)) (f := fun (x_1731 : (List Int)) => (!decide (x_1731 = ([] : (List Int))))) (e' := PV.bl) (AH := [.fz (eScr script_1), .own d_1652.2, .fz ((eP2 (eP2 PV.int PV.int) (eP2 PV.int PV.int)) known_1303), .fz (PV.int x_1312), .fz (PV.int wide_1641), .fz ((eT (eT PV.int)) r_1642.1), .fz ((eT PV.int) q_1654), .fz ((eT PV.int) r_1655), .own ((g_1706).map (eT PV.int)), .any, .fz ((eL (eT PV.int)) ys_1729), .any, .any, .any, .any, .any, .any, .any, .any, .any, .any, .any]) (r := fun (x_1731 : (List Int)) => RF.fz (PV.bl (!decide (x_1731 = ([] : (List Int)))))) (ij_seq (ej_varL rfl) rfl) Wk.refl (fun x_1731 => gj_nm) (fun x_1731 => (ej_binF (ej_pk rfl) (ej_eq (ej_tup vj_nil rfl) rfl) trivial (opNe_q (a := (x_1731 : (List Int))) (b := (([] : (List Int)) : (List Int))) (eqv_T eqv_int) rfl))) (fun _ => trivial) (fun _ => rfl) (fun _ => (.r (.r (.r (.r (.r (.r (.r (.r (.r (.r (.r (.a (.r (.r (.r (.r (.r (.r (.r (.r (.r (.r .nil)))))))))))))))))))))))) clAll_q))) (.r (.r (.r (.r (.r (.r (.r (.r (.r (.r (.o (.r (.r (.r (.r (.r (.r (.r (.r (.r (.r (.r .nil)))))))))))))))))))))) (.r (.r (.r (.r (.r (.r (.r (.r (.r (.r (.f (.r (.r (.r (.r (.r (.r (.r (.r (.r (.r (.r .nil))))))))))))))))))))))) (sj_retO (o := false) ej_c trivial (.a (.a (.a (.a (.a (.a (.a (.a (.a (.r (.a (.r (.r (.r (.r (.r (.r (.r (.r (.r (.r (.r .nil))))))))))))))))))))))) (sj_skip (sj_bind fun r_1733 hr_1733 => (sj_ifX (tj_of (ej_binF (ej_call (cj_v (ej_var rfl) trivial (cj_v (ej_var rfl) trivial cj_nil)) Wk.refl (q_is_in_span_i2 (rows_699 := r_1642.1) (row_700 := q_1654) hr_1733) trivial) (ej_n1F (ej_lc (vs := [11]) (e := (eT PV.int)) (f := fun (x_1734 : (List Int)) => (!decide (x_1734 = ([] : (List Int))))) (e' := PV.bl) (AH := [.fz (eScr script_1), .own d_1652.2, .fz ((eP2 (eP2 PV.int PV.int) (eP2 PV.int PV.int)) known_1303), .fz (PV.int x_1312), .fz (PV.int wide_1641), .fz ((eT (eT PV.int)) r_1642.1), .fz ((eT PV.int) q_1654), .fz ((eT PV.int) r_1655), .fz ((eL (eT PV.int)) g_1706), .any, .ls ((ys_1729).map (eT PV.int)), .any, .any, .any, .any, .any, .any, .any, .any, .any, .any, .any]) (r := fun (x_1734 : (List Int)) => RF.fz (PV.bl (!decide (x_1734 = ([] : (List Int)))))) (ij_seq (ej_varL rfl) rfl) Wk.refl (fun x_1734 => gj_nm) (fun x_1734 => (ej_binF (ej_pk rfl) (ej_eq (ej_tup vj_nil rfl) rfl) trivial (opNe_q (a := (x_1734 : (List Int))) (b := (([] : (List Int)) : (List Int))) (eqv_T eqv_int) rfl))) (fun _ => trivial) (fun _ => rfl) (fun _ => (.r (.r (.r (.r (.r (.r (.r (.r (.r (.r (.r (.a (.r (.r (.r (.r (.r (.r (.r (.r (.r (.r .nil)))))))))))))))))))))))) clAll_q) trivial (opNe_q (a := (r_1733 : Bool)) (b := (((g_1706.map fun (x_1734 : (List Int)) => ((!decide (x_1734 = ([] : (List Int)))) : Bool)).all id) : Bool)) eqv_bl rfl))) (sj_retO (o := false) ej_c trivial (.a (.a (.a (.a (.a (.a (.a (.a (.a (.r (.a (.r (.r (.r (.r (.r (.r (.r (.r (.r (.r (.r .nil))))))))))))))))))))))) (sj_skip (sj_bind fun r_1736 hr_1736 => (sj_bind fun r_1739 hr_1739 => (sj_set (ej_call (cj_b rfl (cj_v (ej_lcF (vs := [11]) (e := (eT PV.int)) (f := fun (x_1737 : (List Int)) => x_1737) (c := fun (x_1737 : (List Int)) => (!decide (x_1737 = ([] : (List Int))))) (e' := (eT PV.int)) (AH := [.fz (eScr script_1), .any, .fz ((eP2 (eP2 PV.int PV.int) (eP2 PV.int PV.int)) known_1303), .fz (PV.int x_1312), .fz (PV.int wide_1641), .fz ((eT (eT PV.int)) r_1642.1), .fz ((eT PV.int) q_1654), .fz ((eT PV.int) r_1655), .fz ((eL (eT PV.int)) g_1706), .any, .ls ((ys_1729).map (eT PV.int)), .any, .any, .any, .any, .any, .any, .any, .any, .any, .any, .any]) (r := fun (x_1737 : (List Int)) => RF.fz ((eT PV.int) x_1737)) (ij_seq (ej_call (cj_v (ej_n1F (ej_pk rfl) clLen_T) trivial cj_nil) Wk.refl (q__law_lots (many_764 := (r_1642.1.length : Int)) hr_1736) trivial) rfl) Wk.refl (fun x_1737 => gj_nm) (fun x_1737 => (tj_of (ej_binF (ej_pk rfl) (ej_eq (ej_tup vj_nil rfl) rfl) trivial (opNe_q (a := (x_1737 : (List Int))) (b := (([] : (List Int)) : (List Int))) (eqv_T eqv_int) rfl)))) (fun x_1737 => (ej_var rfl)) (fun _ => trivial) (fun _ => rfl) (fun _ => (.r (.r (.r (.r (.r (.r (.r (.r (.r (.r (.r (.a (.r (.r (.r (.r (.r (.r (.r (.r (.r (.r .nil))))))))))))))))))))))) (fun _ => (.r (.r (.r (.r (.r (.r (.r (.r (.r (.r (.r (.a (.r (.r (.r (.r (.r (.r (.r (.r (.r (.r .nil)))))))))))))))))))))))) trivial cj_nil)) (.r (.o .nil)) (q__law_any (hand_816 := d_1652.2) (things_817 := ((r_1736.filter fun (x_1737 : (List Int)) => (!decide (x_1737 = ([] : (List Int))))).map fun (x_1737 : (List Int)) => (x_1737 : (List Int)))) hr_1739) trivial) trivial (sj_bind fun ys_1744 hys_1744 => (sj_set (ej_lcM (vs := [18]) (e := PV.int) (f := fun (x_1740 : Int) => (L2.atI r_1642.1 x_1740).bind fun x_1743 => some (x_1743 : (List Int))) (e' := (eT PV.int)) (AH := [.fz (eScr script_1), .own r_1739.2, .fz ((eP2 (eP2 PV.int PV.int) (eP2 PV.int PV.int)) known_1303), .fz (PV.int x_1312), .fz (PV.int wide_1641), .fz ((eT (eT PV.int)) r_1642.1), .fz ((eT PV.int) q_1654), .fz ((eT PV.int) r_1655), .fz ((eL (eT PV.int)) g_1706), .any, .ls ((ys_1729).map (eT PV.int)), .fz ((eT PV.int) r_1739.1), .any, .any, .any, .any, .any, .any, .any, .any, .any, .any]) (rr := (fun (z : (List Int)) => RF.fz ((eT PV.int) z))) (AC := fun _ _ => [.fz (eScr script_1), .own r_1739.2, .fz ((eP2 (eP2 PV.int PV.int) (eP2 PV.int PV.int)) known_1303), .fz (PV.int x_1312), .fz (PV.int wide_1641), .fz ((eT (eT PV.int)) r_1642.1), .fz ((eT PV.int) q_1654), .fz ((eT PV.int) r_1655), .fz ((eL (eT PV.int)) g_1706), .any, .ls ((ys_1729).map (eT PV.int)), .fz ((eT PV.int) r_1739.1), .any, .any, .any, .any, .any, .any, .any, .any, .any, .any]) (ij_seq (ej_var rfl) rfl) Wk.refl (fun x_1740 => gj_nm) (fun x_1740 => (ejo_bind fun x_1743 hx_1743 => (ejo_some (ej_wk (ej_binF (ej_pk rfl) (ej_pk rfl) trivial (opIx_T hx_1743)) (.r (.r (.r (.r (.r (.r (.r (.r (.r (.r (.r (.r (.r (.r (.r (.r (.r (.r (.a (.r (.r (.r .nil)))))))))))))))))))))) trivial)))) (fun _ => trivial) (fun _ => rfl) (fun _ _ => Wk.refl) hys_1744) trivial (sj_bind fun r_1745 hr_1745 => (sj_bind fun r_1746 hr_1746 => (sj_ifX (tj_of (ej_binF (ej_n1F (ej_call (cj_v (ej_var rfl) trivial (cj_v (ej_var rfl) trivial (cj_v (ej_var rfl) trivial cj_nil))) Wk.refl (q_is_inner (rows_217 := r_1642.1) (row_218 := q_1654) (lot_219 := r_1739.1) hr_1745) trivial) rfl) (ej_n1F (ej_binF (ej_call (cj_v (ej_varL rfl) trivial (cj_v (ej_var rfl) trivial cj_nil)) (.f (.r .nil)) (q__law_near_i2 (makers_829 := ys_1744) (row_830 := q_1654) hr_1746) trivial) (ej_pk rfl) trivial (opEq_q (a := (r_1746 : (List Int))) (b := (q_1654 : (List Int))) (eqv_T eqv_int) rfl)) rfl) trivial (opNe_q (a := (r_1745 : Bool)) (b := (decide (r_1746 = q_1654) : Bool)) eqv_strB rfl))) (sj_retO (o := false) ej_c trivial (.a (.a (.a (.a (.a (.a (.a (.a (.a (.r (.a (.a (.a (.r (.r (.r (.r (.r (.r (.r (.r (.r .nil))))))))))))))))))))))) (sj_skip (sj_bind fun r_1747 hr_1747 => (sj_bind fun r_1748 hr_1748 => (sj_bind fun ys_1756 hys_1756 => (sj_par2L (fun (z : (List Int)) => RF.fz ((eT PV.int) z)) (fun (z : (List Int)) => RF.fz ((eT PV.int) z)) (ej_call (cj_b rfl (cj_v (ej_var rfl) trivial cj_nil)) Wk.refl (q__law_any_i2 (hand_914 := r_1739.2) (things_915 := r_1642.1) hr_1747) trivial) (ej_n1F (ej_lcT (vs := [9]) (e := PV.int) (me := fun (x_1749 : Int) (s_1752 : (List PV)) => (drawQ s_1752 (11 : Int)).bind fun d_1755 => some (((d_1755.1 - (4 : Int)) : Int), d_1755.2)) (e' := PV.int) (AH := (fun (g : (List PV)) => [.fz (eScr script_1), .own g, .fz ((eP2 (eP2 PV.int PV.int) (eP2 PV.int PV.int)) known_1303), .fz (PV.int x_1312), .fz (PV.int wide_1641), .fz ((eT (eT PV.int)) r_1642.1), .fz ((eT PV.int) q_1654), .fz ((eT PV.int) r_1655), .fz ((eL (eT PV.int)) g_1706), .any, .ls ((ys_1729).map (eT PV.int)), .fz ((eT PV.int) r_1739.1), .fz ((eL (eT PV.int)) ys_1744), .any, .any, .any, .any, .any, .any, .any, .any, .any])) (rr := (fun (z : Int) => RF.fz (PV.int z))) (ij_rng1 (ej_pk rfl) hr_1748) Wk.refl (fun x_1749 s_1752 => gj_nm) (fun x_1749 s_1752 => (ejo_bind fun d_1755 hd_1755 => (ejo_some (ej_wk (ej_b0 (ej_call (cj_b rfl (cj_v ej_c trivial cj_nil)) Wk.refl (q__law_draw hd_1755) trivial) ej_c rfl) (.r (.r (.r (.r (.r (.r (.r (.r (.r (.a (.r (.r (.r (.r (.r (.r (.r (.r (.r (.r (.r (.r .nil)))))))))))))))))))))) trivial)))) (fun _ => trivial) (fun _ => rfl) hys_1756) rfl) (fun _ => trivial) (fun _ => trivial) fun one_1757 other_1758 => (sj_setL (fun (z : (List Int)) => RF.own (z.map PV.int)) (ej_lc (vs := [18, 20]) (e := (eP2 PV.int PV.int)) (f := fun (x_1759 : (Int × Int)) => (x_1759.1 - x_1759.2)) (e' := PV.int) (AH := [.fz (eScr script_1), .own ys_1756.2, .fz ((eP2 (eP2 PV.int PV.int) (eP2 PV.int PV.int)) known_1303), .fz (PV.int x_1312), .fz (PV.int wide_1641), .fz ((eT (eT PV.int)) r_1642.1), .fz ((eT PV.int) q_1654), .fz ((eT PV.int) r_1655), .fz ((eL (eT PV.int)) g_1706), .any, .ls ((ys_1729).map (eT PV.int)), .fz ((eT PV.int) r_1739.1), .fz ((eL (eT PV.int)) ys_1744), .fz ((eT PV.int) one_1757), .fz ((eT PV.int) other_1758), .any, .any, .any, .any, .any, .any, .any]) (r := fun (x_1759 : (Int × Int)) => RF.fz (PV.int (x_1759.1 - x_1759.2))) (ij_zip2 (ej_var rfl) (ej_var rfl) rfl rfl) Wk.refl (fun x_1759 => (gj_tp (gsj_cons gj_nm (gsj_cons gj_nm gsj_nil)))) (fun x_1759 => (ej_b0 (ej_pk rfl) (ej_pk rfl) rfl)) (fun _ => trivial) (fun _ => rfl) (fun _ => (.r (.r (.r (.r (.r (.r (.r (.r (.r (.r (.r (.r (.r (.r (.r (.r (.r (.r (.a (.r (.a (.r .nil)))))))))))))))))))))))) (fun _ => trivial) fun less_1761 => (sj_bind fun r_1762 hr_1762 => (sj_bind fun m_1763 hm_1763 => (sj_bind fun m_1764 hm_1764 => (sj_bind fun t_1767 ht_1767 => (sj_ifX (tjx_or (w0 := true) (ct := fun (z : Bool) => z) (BB := (fun (z : Bool) => [.fz (eScr script_1), .own ys_1756.2, .fz ((eP2 (eP2 PV.int PV.int) (eP2 PV.int PV.int)) known_1303), .fz (PV.int x_1312), .fz (PV.int wide_1641), .fz ((eT (eT PV.int)) r_1642.1), .fz ((eT PV.int) q_1654), .fz ((eT PV.int) r_1655), .fz ((eL (eT PV.int)) g_1706), .any, .ls ((ys_1729).map (eT PV.int)), .fz ((eT PV.int) r_1739.1), .fz ((eL (eT PV.int)) ys_1744), .fz ((eT PV.int) one_1757), .fz ((eT PV.int) other_1758), .own ((less_1761).map PV.int), .any, .any, .any, .any, .any, .any])) (tj_of (ej_binF (ej_call (cj_v (ej_var rfl) trivial (cj_v (ej_var rfl) trivial cj_nil)) Wk.refl (q_far (one_161 := one_1757) (other_162 := other_1758) hr_1762) trivial) (ej_b0 (ej_n1F (ej_pkL rfl) (clMax_L hm_1763)) (ej_n1F (ej_pkL rfl) (clMin_L hm_1764)) rfl) trivial (opNe_q (a := (r_1762 : Int)) (b := ((m_1763 - m_1764) : Int)) eqv_int rfl))) (tjo_bind fun r_1765 hr_1765 => (tjo_bind fun r_1766 hr_1766 => (tjo_some (tj_wk (tj_of (ej_binF (ej_call (cj_v (ej_var rfl) trivial (cj_v (ej_var rfl) trivial cj_nil)) Wk.refl (q_far (one_161 := other_1758) (other_162 := one_1757) hr_1765) trivial) (ej_call (cj_v (ej_var rfl) trivial (cj_v (ej_var rfl) trivial cj_nil)) Wk.refl (q_far (one_161 := one_1757) (other_162 := other_1758) hr_1766) trivial) trivial (opNe_q (a := (r_1765 : Int)) (b := (r_1766 : Int)) eqv_int rfl))) Wk.refl)))) rfl Wk.refl ht_1767) (sj_retO (o := false) ej_c trivial (.a (.a (.a (.a (.a (.a (.a (.a (.a (.r (.a (.a (.a (.a (.a (.a (.r (.r (.r (.r (.r (.r .nil))))))))))))))))))))))) (sj_skip (sj_bind fun d_1768 hd_1768 => (sj_setL (fun (z : Int) => RF.fz (PV.int z)) (ej_b0 (ej_call (cj_b rfl (cj_v ej_c trivial cj_nil)) Wk.refl (q__law_draw hd_1768) trivial) ej_c rfl) (fun _ => trivial) fun number_1769 => (sj_bind fun r_1770 hr_1770 => (sj_ifX (tj_of (ej_binF (ej_call (cj_v (ej_var rfl) trivial (cj_v (ej_var rfl) trivial (cj_v (ej_var rfl) trivial cj_nil))) Wk.refl (q_step_row (one_175 := one_1757) (other_176 := other_1758) (number_177 := number_1769) hr_1770) trivial) (ej_n1F (ej_lc (vs := [18, 20]) (e := (eP2 PV.int PV.int)) (f := fun (x_1771 : (Int × Int)) => (max x_1771.1 (x_1771.2 + number_1769))) (e' := PV.int) (AH := [.fz (eScr script_1), .own d_1768.2, .fz ((eP2 (eP2 PV.int PV.int) (eP2 PV.int PV.int)) known_1303), .fz (PV.int x_1312), .fz (PV.int wide_1641), .fz ((eT (eT PV.int)) r_1642.1), .fz ((eT PV.int) q_1654), .fz ((eT PV.int) r_1655), .fz ((eL (eT PV.int)) g_1706), .any, .ls ((ys_1729).map (eT PV.int)), .fz ((eT PV.int) r_1739.1), .fz ((eL (eT PV.int)) ys_1744), .fz ((eT PV.int) one_1757), .fz ((eT PV.int) other_1758), .own ((less_1761).map PV.int), .fz (PV.int number_1769), .any, .any, .any, .any, .any]) (r := fun (x_1771 : (Int × Int)) => RF.fz (PV.int (max x_1771.1 (x_1771.2 + number_1769)))) (ij_zip2 (ej_var rfl) (ej_var rfl) rfl rfl) Wk.refl (fun x_1771 => (gj_tp (gsj_cons gj_nm (gsj_cons gj_nm gsj_nil)))) (fun x_1771 => (ej_n2F (ej_pk rfl) (ej_b0 (ej_pk rfl) (ej_pk rfl) rfl) trivial rfl)) (fun _ => trivial) (fun _ => rfl) (fun _ => (.r (.r (.r (.r (.r (.r (.r (.r (.r (.r (.r (.r (.r (.r (.r (.r (.r (.r (.a (.r (.a (.r .nil)))))))))))))))))))))))) rfl) trivial (opNe_q (a := (r_1770 : (List Int))) (b := (((one_1757.zip other_1758).map fun (x_1771 : (Int × Int)) => ((max x_1771.1 (x_1771.2 + number_1769)) : Int)) : (List Int))) (eqv_T eqv_int) rfl))) (sj_retO (o := false) ej_c trivial (.a (.a (.a (.a (.a (.a (.a (.a (.a (.r (.a (.a (.a (.a (.a (.a (.a (.r (.r (.r (.r (.r .nil))))))))))))))))))))))) (sj_skip (sj_set (ej_lst vj_nil rfl) trivial (sj_bind fun z_1773 hz_1773 => (sj_for (e := PV.int) (fun (g : (List (List Int))) => [.fz (eScr script_1), .own d_1768.2, .fz ((eP2 (eP2 PV.int PV.int) (eP2 PV.int PV.int)) known_1303), .fz (PV.int x_1312), .fz (PV.int wide_1641), .fz ((eT (eT PV.int)) r_1642.1), .fz ((eT PV.int) q_1654), .fz ((eT PV.int) r_1655), .fz ((eL (eT PV.int)) g_1706), .any, .ls ((ys_1729).map (eT PV.int)), .fz ((eT PV.int) r_1739.1), .fz ((eL (eT PV.int)) ys_1744), .fz ((eT PV.int) one_1757), .fz ((eT PV.int) other_1758), .own ((less_1761).map PV.int), .any, .own ((g).map (eT PV.int)), .any, .any, .any, .any]) (ij_seq (ej_n1O (ej_pkL rfl) (clSS_iL hz_1773)) rfl) (.r (.r (.r (.r (.r (.r (.r (.r (.r (.r (.r (.r (.r (.r (.r (.r (.a (.r (.r (.r (.r (.r .nil)))))))))))))))))))))) (fun x_1774 g_1785 => gj_nm) (fun x_1774 g_1785 => (sj_last (sj_bind fun r_1788 hr_1788 => (sj_bind fun a_1789 ha_1789 => (sj_expr (ej_appT (e := (eT PV.int)) (x := r_1788) (ej_call (cj_v (ej_n1F (ej_lc (vs := [18, 20]) (e := (eP2 PV.int PV.int)) (f := fun (x_1786 : (Int × Int)) => (max x_1786.1 (x_1786.2 + x_1774))) (e' := PV.int) (AH := [.fz (eScr script_1), .own d_1768.2, .fz ((eP2 (eP2 PV.int PV.int) (eP2 PV.int PV.int)) known_1303), .fz (PV.int x_1312), .fz (PV.int wide_1641), .fz ((eT (eT PV.int)) r_1642.1), .fz ((eT PV.int) q_1654), .fz ((eT PV.int) r_1655), .fz ((eL (eT PV.int)) g_1706), .any, .ls ((ys_1729).map (eT PV.int)), .fz ((eT PV.int) r_1739.1), .fz ((eL (eT PV.int)) ys_1744), .fz ((eT PV.int) one_1757), .fz ((eT PV.int) other_1758), .own ((less_1761).map PV.int), .fz (PV.int x_1774), .own ((g_1785).map (eT PV.int)), .any, .any, .any, .any]) (r := fun (x_1786 : (Int × Int)) => RF.fz (PV.int (max x_1786.1 (x_1786.2 + x_1774)))) (ij_zip2 (ej_var rfl) (ej_var rfl) rfl rfl) Wk.refl (fun x_1786 => (gj_tp (gsj_cons gj_nm (gsj_cons gj_nm gsj_nil)))) (fun x_1786 => (ej_n2F (ej_pk rfl) (ej_b0 (ej_pk rfl) (ej_pk rfl) rfl) trivial rfl)) (fun _ => trivial) (fun _ => rfl) (fun _ => (.r (.r (.r (.r (.r (.r (.r (.r (.r (.r (.r (.r (.r (.r (.r (.r (.r (.r (.a (.r (.a (.r .nil)))))))))))))))))))))))) rfl) trivial cj_nil) Wk.refl (q_plain_row (row_191 := ((one_1757.zip other_1758).map fun (x_1786 : (Int × Int)) => ((max x_1786.1 (x_1786.2 + x_1774)) : Int))) hr_1788) trivial) trivial rfl rfl rfl ha_1789) (sj_endL (.r (.r (.r (.r (.r (.r (.r (.r (.r (.r (.r (.r (.r (.r (.r (.r (.a (.r (.r (.r (.r (.r .nil)))))))))))))))))))))))))))) fun g_1790 => (sj_bind fun r_1791 hr_1791 => (sj_ifX (tj_of (ej_binF (ej_n1O (ej_call (cj_v (ej_var rfl) trivial (cj_v (ej_var rfl) trivial cj_nil)) Wk.refl (q_kinks (one_183 := one_1757) (other_184 := other_1758) hr_1791) trivial) clSorted2_T) (ej_n1O (ej_pkL rfl) clSorted2_T) trivial (opNe_q (a := ((sortT r_1791) : (List (List Int)))) (b := ((sortT g_1790) : (List (List Int)))) (eqv_L (eqv_T eqv_int)) rfl))) (sj_retO (o := false) ej_c trivial (.a (.a (.a (.a (.a (.a (.a (.a (.a (.r (.a (.a (.a (.a (.a (.a (.r (.a (.r (.r (.r (.r .nil))))))))))))))))))))))) (sj_skip (sj_bind fun ys_1796 hys_1796 => (sj_ifX (tj_not (tj_of (ej_n1F (ej_lcM (vs := [21]) (e := (eT PV.int)) (f := fun (x_1792 : (List Int)) => (p_is_in_span ([one_1757, other_1758]) x_1792).bind fun r_1795 => some (r_1795 : Bool)) (e' := PV.bl) (AH := [.fz (eScr script_1), .own d_1768.2, .fz ((eP2 (eP2 PV.int PV.int) (eP2 PV.int PV.int)) known_1303), .fz (PV.int x_1312), .fz (PV.int wide_1641), .fz ((eT (eT PV.int)) r_1642.1), .fz ((eT PV.int) q_1654), .fz ((eT PV.int) r_1655), .fz ((eL (eT PV.int)) g_1706), .any, .ls ((ys_1729).map (eT PV.int)), .fz ((eT PV.int) r_1739.1), .fz ((eL (eT PV.int)) ys_1744), .fz ((eT PV.int) one_1757), .fz ((eT PV.int) other_1758), .own ((less_1761).map PV.int), .any, .fz ((eL (eT PV.int)) g_1790), .any, .any, .any, .any]) (rr := (fun (z : Bool) => RF.fz (PV.bl z))) (AC := fun _ _ => [.fz (eScr script_1), .own d_1768.2, .fz ((eP2 (eP2 PV.int PV.int) (eP2 PV.int PV.int)) known_1303), .fz (PV.int x_1312), .fz (PV.int wide_1641), .fz ((eT (eT PV.int)) r_1642.1), .fz ((eT PV.int) q_1654), .fz ((eT PV.int) r_1655), .fz ((eL (eT PV.int)) g_1706), .any, .ls ((ys_1729).map (eT PV.int)), .fz ((eT PV.int) r_1739.1), .fz ((eL (eT PV.int)) ys_1744), .fz ((eT PV.int) one_1757), .fz ((eT PV.int) other_1758), .own ((less_1761).map PV.int), .any, .fz ((eL (eT PV.int)) g_1790), .any, .any, .any, .any]) (ij_seq (ej_varL rfl) rfl) Wk.refl (fun x_1792 => gj_nm) (fun x_1792 => (ejo_bind fun r_1795 hr_1795 => (ejo_some (ej_wk (ej_call (cj_v (ej_lst (vj_consE (ej_var rfl) trivial rfl (vj_consE (ej_var rfl) trivial rfl vj_nil)) rfl) trivial (cj_v (ej_var rfl) trivial cj_nil)) (.o (.r .nil)) (q_is_in_span (rows_244 := [one_1757, other_1758]) (row_245 := x_1792) hr_1795) trivial) (.r (.r (.r (.r (.r (.r (.r (.r (.r (.r (.r (.r (.r (.r (.r (.r (.r (.r (.r (.r (.r (.a .nil)))))))))))))))))))))) trivial)))) (fun _ => trivial) (fun _ => rfl) (fun _ _ => Wk.refl) hys_1796) clAll_q))) (sj_retO (o := false) ej_c trivial (.a (.a (.a (.a (.a (.a (.a (.a (.a (.r (.a (.a (.a (.a (.a (.a (.r (.a (.r (.r (.r (.r .nil))))))))))))))))))))))) (sj_skip (sj_last (sj_bind fun x_1797 hx_1797 => (sj_bind fun r_1798 hr_1798 => (sj_bind fun t_1801 ht_1801 => (sj_ifX (tjx_or (w0 := true) (ct := fun (z : Bool) => z) (BB := (fun (z : Bool) => [.fz (eScr script_1), .own d_1768.2, .fz ((eP2 (eP2 PV.int PV.int) (eP2 PV.int PV.int)) known_1303), .fz (PV.int x_1312), .fz (PV.int wide_1641), .fz ((eT (eT PV.int)) r_1642.1), .fz ((eT PV.int) q_1654), .fz ((eT PV.int) r_1655), .fz ((eL (eT PV.int)) g_1706), .any, .ls ((ys_1729).map (eT PV.int)), .fz ((eT PV.int) r_1739.1), .fz ((eL (eT PV.int)) ys_1744), .fz ((eT PV.int) one_1757), .fz ((eT PV.int) other_1758), .own ((less_1761).map PV.int), .any, .fz ((eL (eT PV.int)) g_1790), .any, .any, .any, .any])) (tj_of (ej_binF (ej_binF (ej_pk rfl) ej_c trivial (opIx_L hx_1797)) (ej_call (cj_v (ej_var rfl) trivial cj_nil) Wk.refl (q_plain_row (row_191 := one_1757) hr_1798) trivial) trivial (opNe_q (a := (x_1797 : (List Int))) (b := (r_1798 : (List Int))) (eqv_T eqv_int) rfl))) (tjo_bind fun x_1799 hx_1799 => (tjo_bind fun r_1800 hr_1800 => (tjo_some (tj_wk (tj_of (ej_binF (ej_binF (ej_pk rfl) (ej_neg ej_c) trivial (opIx_L hx_1799)) (ej_call (cj_v (ej_var rfl) trivial cj_nil) Wk.refl (q_plain_row (row_191 := other_1758) hr_1800) trivial) trivial (opNe_q (a := (x_1799 : (List Int))) (b := (r_1800 : (List Int))) (eqv_T eqv_int) rfl))) Wk.refl)))) rfl Wk.refl ht_1801) (sj_retO (o := false) ej_c trivial (.a (.a (.a (.a (.a (.a (.a (.a (.a (.r (.a (.a (.a (.a (.a (.a (.r (.a (.r (.r (.r (.r .nil))))))))))))))))))))))) (sj_skip (sj_endO (.r (.r (.r (.a (.a (.a (.a (.a (.a (.r (.a (.a (.a (.a (.a (.a (.r (.a (.r (.r (.r (.r .nil))))))))))))))))))))))))))))))))))))))))))))))))))))))))))))))))))))))))))))))))))))))))))) (fun _ _ _ h => .inl h) fun g_1802 => (sj_last (sj_retF (o := true) ej_c trivial (.a (.a (.a (.r (.r (.r (.r (.r (.r (.r (.r (.r (.r (.r (.r (.r (.r (.r (.r (.r (.r (.r .nil)))))))))))))))))))))))))))))))))))))))) Wk.refl
end Wk25
set_option Elab.async false
set_option linter.all false
set_option maxRecDepth 100000
set_option maxHeartbeats 400000
namespace Wk25
open PySem PL
structure Mk (A : List (List Int)) (w : Nat) : Prop where
  n1 : 1 ≤ A.length
  n2 : A.length ≤ 8
  w1 : 1 ≤ w
  w2 : w ≤ 8
  r : ∀ r ∈ A, r.length = w
def gaps (r row : List Int) : List Int := (r.zip row).map fun x => x.2 - x.1
def sh (r row : List Int) : Int := minL (gaps r row)
def shs (A : List (List Int)) (row : List Int) : List Int := A.map fun r => sh r row
def mdl (A : List (List Int)) (s : List Int) (j : Nat) : List Int := (A.zip s).map fun x => it x.1 j + x.2
def md (A : List (List Int)) (s : List Int) (w : Nat) : List Int := (List.range w).map fun j => maxL (mdl A s j)
def nea (A : List (List Int)) (row : List Int) (w : Nat) : List Int := md A (shs A row) w
variable {A : List (List Int)} {w : Nat} {row s : List Int}
theorem Mk.hd (H : Mk A w) : ∃ r, L2.atI A 0 = some r ∧ r ∈ A ∧ r.length = w := by
  have h1 := H.n1
  refine ⟨A[0]'(by omega), ?_, List.getElem_mem _, H.r _ (List.getElem_mem _)⟩
  rw [atI_zero, List.getElem?_eq_getElem (by omega)]
theorem md_len : (md A s w).length = w := by simp [md]
theorem shs_len : (shs A row).length = A.length := by simp [shs]
theorem gaps_ne (H : Mk A w) (hr : row.length = w) {r : List Int} (h : r ∈ A) : gaps r row ≠ [] := by
  have := H.r r h; have := H.w1
  intro z
  have := congrArg List.length z
  simp only [gaps, List.length_map, List.length_zip, List.length_nil] at this
  omega
theorem mdl_ne (H : Mk A w) (hs : s.length = A.length) (j : Nat) : mdl A s j ≠ [] := by
  have := H.n1
  intro z
  have := congrArg List.length z
  simp only [mdl, List.length_map, List.length_zip, List.length_nil] at this
  omega
theorem gaps_it (H : Mk A w) (hr : row.length = w) {r : List Int} (h : r ∈ A) {g : Int} : g ∈ gaps r row ↔ ∃ j < w, g = it row j - it r j := by
  unfold gaps
  rw [List.mem_map]
  have e := H.r r h
  constructor
  · rintro ⟨p, hp, rfl⟩
    obtain ⟨j, hj, rfl⟩ := (mem_zip_it (by omega)).mp hp
    exact ⟨j, by omega, rfl⟩
  · rintro ⟨j, hj, rfl⟩
    exact ⟨_, (mem_zip_it (by omega)).mpr ⟨j, by omega, rfl⟩, rfl⟩
theorem zip_map {β γ : Type} {f : β → γ} {A : List β} {p : β × γ} : p ∈ A.zip (A.map f) ↔ p.1 ∈ A ∧ p.2 = f p.1 := by
  induction A with
  | nil => simp
  | cons a A ih =>
    rw [List.map_cons, List.zip_cons_cons, List.mem_cons, ih, List.mem_cons]
    constructor
    · rintro (rfl | ⟨h1, h2⟩)
      · exact ⟨Or.inl rfl, rfl⟩
      · exact ⟨Or.inr h1, h2⟩
    · rintro ⟨rfl | h1, h2⟩
      · exact Or.inl (by rw [← h2])
      · exact Or.inr ⟨h1, h2⟩
theorem P_check_makers (H : Mk A w) : p_check_makers A = some () := by
  unfold p_check_makers
  have h1 := H.n1; have h2 := H.n2; have h3 := H.w1; have h4 := H.w2
  rw [if_neg (by simp [p_is_row]; omega)]
  obtain ⟨r0, e0, m0, l0⟩ := H.hd
  obtain ⟨g, e, _⟩ := forG_mem (xs := A) (g := ()) (b := fun x_26 g_33 => (if (!(p_is_row_i2 x_26)) = true then some true else (if (!(decide ((1 : Int) ≤ (x_26.length : Int)) && decide ((x_26.length : Int) ≤ (8 : Int)))) = true then some true else (L2.atI A (0 : Int)).bind fun x_34 => some (!decide ((x_26.length : Int) = (x_34.length : Int)))).bind fun t_35 => some t_35).bind fun t_36 => (if t_36 = true then none else (if (!((x_26.map fun x_37 => ((p_is_integer x_37) : Bool)).all id)) = true then none else some ()))) (fun _ => True) trivial fun r hr g _ => by
    refine ⟨(), ?_, trivial⟩
    rw [if_neg (by simp [p_is_row_i2]), if_neg (by have := H.r r hr; simp; omega), e0]
    simp only [Option.bind_some]
    rw [if_neg (by have := H.r r hr; simp; omega), if_neg]
    simp [List.all_map, p_is_integer]
  rw [e]; rfl
theorem P_check_makers2 (H : Mk A w) : p_check_makers_i2 A = some () := P_check_makers H
theorem P_are_integers {k : Nat} (h : s.length = k) : p_are_integers s (k : Int) = true := by
  unfold p_are_integers
  simp [p_is_row_i2, h, List.all_map, p_is_integer]
theorem P_check_like (H : Mk A w) (hr : row.length = w) : p_check_like A row = some () := by
  unfold p_check_like
  obtain ⟨r0, e0, m0, l0⟩ := H.hd
  rw [P_check_makers H, Option.bind_some, e0, Option.bind_some, l0, P_are_integers hr]; rfl
theorem sh_eq (H : Mk A w) (hr : row.length = w) {b : List Int → Option Int} (hb : ∀ r ∈ A, b r = (minO ((r.zip row).map fun x => x.2 - x.1)).bind fun m => some m) : mapO A b = some (shs A row) := by
  refine mapO_some fun r hrA => ?_
  rw [hb r hrA]
  show (minO (gaps r row)).bind _ = _
  rw [minO_some (gaps_ne H hr hrA)]; rfl
theorem P_greatest_shifts (H : Mk A w) (hr : row.length = w) : p_greatest_shifts A row = some (shs A row) := by
  unfold p_greatest_shifts
  rw [P_check_like H hr, Option.bind_some, sh_eq H hr fun r _ => rfl]; rfl
theorem P_greatest_shifts2 (H : Mk A w) (hr : row.length = w) : p_greatest_shifts_i2 A row = some (shs A row) := P_greatest_shifts H hr
theorem P_law_shifts (H : Mk A w) (hr : row.length = w) : p__law_shifts A row = some (shs A row) := by
  unfold p__law_shifts
  rw [sh_eq H hr fun r _ => rfl]; rfl
theorem mdj_eq (H : Mk A w) (hs : s.length = A.length) {j : Nat} (hj : j < w) : (mapO (A.zip s) fun x => (L2.atI x.1 (j : Int)).bind fun y => some (y + x.2)) = some (mdl A s j) := by
  refine mapO_some fun x hx => ?_
  have := H.r x.1 (List.of_mem_zip hx).1
  rw [atI_it (by omega)]; rfl
theorem P_made (H : Mk A w) (hs : s.length = A.length) : p_made A s = some (md A s w) := by
  have h4 := H.w2
  unfold p_made
  obtain ⟨r0, e0, m0, l0⟩ := H.hd
  rw [P_check_makers2 H, Option.bind_some, P_are_integers hs, if_neg (by simp), letQ_eq, e0, Option.bind_some, l0, rng1_nat (by omega), Option.bind_some, mapO_some (f := fun i => maxL (mdl A s i.toNat)) fun i hi => ?_, Option.bind_some, rg_map]
  · rfl
  · obtain ⟨j, hj, rfl⟩ := mem_rg.mp hi
    rw [mdj_eq H hs hj, Option.bind_some, maxO_some (mdl_ne H hs j)]; rfl
theorem P_law_made (H : Mk A w) (hs : s.length = A.length) : p__law_made A s = some (md A s w) := by
  have h4 := H.w2
  unfold p__law_made
  obtain ⟨r0, e0, m0, l0⟩ := H.hd
  rw [e0, Option.bind_some, l0, rng1_nat (by omega), Option.bind_some, forG_app (fun i => maxL (mdl A s i.toNat)) (fun i hi g => ?_) (by simp [rg_length]; omega), Option.bind_some, rg_map]
  · rfl
  · obtain ⟨j, hj, rfl⟩ := mem_rg.mp hi
    rw [mdj_eq H hs hj, Option.bind_some, maxO_some (mdl_ne H hs j), Option.bind_some]
    rw [Int.toNat_natCast]
    cases appO g (maxL (mdl A s j)) <;> rfl
theorem P_law_near (H : Mk A w) (hr : row.length = w) : p__law_near A row = some (nea A row w) := by
  unfold p__law_near
  rw [P_law_shifts H hr, Option.bind_some, P_law_made H shs_len]; rfl
theorem P_is_in_span (H : Mk A w) (hr : row.length = w) : p_is_in_span A row = some (decide (nea A row w = row)) := by
  unfold p_is_in_span
  rw [P_greatest_shifts2 H hr, Option.bind_some, P_made H shs_len]; rfl
theorem P_is_in_span2 (H : Mk A w) (hr : row.length = w) : p_is_in_span_i2 A row = some (decide (nea A row w = row)) := P_is_in_span H hr
theorem P_law_near2 (H : Mk A w) (hr : row.length = w) : p__law_near_i2 A row = some (nea A row w) := P_law_near H hr
end Wk25
set_option Elab.async false
set_option linter.all false
set_option maxRecDepth 100000
set_option maxHeartbeats 400000
namespace Wk25
open PySem PL
variable {A : List (List Int)} {w : Nat} {row s : List Int}
/-- at j the row u, put where v is, is nowhere later -/
def blw (w j : Nat) (u v : List Int) : Prop := ∀ i < w, it u i - it u j ≤ it v i - it v j
theorem blw.refl {j : Nat} {u : List Int} : blw w j u u := fun _ _ => Int.le_refl _
theorem blw.trans {j : Nat} {u v x : List Int} (h1 : blw w j u v) (h2 : blw w j v x) : blw w j u x := fun i hi => Int.le_trans (h1 i hi) (h2 i hi)
def mkd (A : List (List Int)) (w : Nat) (row : List Int) : Prop := ∀ j < w, ∃ u ∈ A, blw w j u row
theorem near_le (H : Mk A w) (hr : row.length = w) {j : Nat} (hj : j < w) : it (nea A row w) j ≤ it row j := by
  unfold nea md
  rw [it_map hj, maxL_le_iff (mdl_ne H shs_len j)]
  intro y hy
  unfold mdl at hy
  obtain ⟨p, hp, rfl⟩ := List.mem_map.mp hy
  obtain ⟨hrA, e⟩ := zip_map.mp hp
  have : sh p.1 row ≤ it row j - it p.1 j := minL_le ((gaps_it H hr hrA).mpr ⟨j, hj, rfl⟩)
  rw [e]; omega
theorem near_ge (H : Mk A w) (hr : row.length = w) {j : Nat} (hj : j < w) : it row j ≤ it (nea A row w) j ↔ ∃ u ∈ A, blw w j u row := by
  unfold nea md
  rw [it_map hj, le_maxL_iff (mdl_ne H shs_len j)]
  constructor
  · rintro ⟨y, hy, k⟩
    unfold mdl at hy
    obtain ⟨p, hp, rfl⟩ := List.mem_map.mp hy
    obtain ⟨hrA, e⟩ := zip_map.mp hp
    refine ⟨p.1, hrA, fun i hi => ?_⟩
    have : sh p.1 row ≤ it row i - it p.1 i := minL_le ((gaps_it H hr hrA).mpr ⟨i, hi, rfl⟩)
    rw [e] at k
    omega
  · rintro ⟨u, hu, k⟩
    refine ⟨it u j + sh u row, List.mem_map.mpr ⟨(u, sh u row), zip_map.mpr ⟨hu, rfl⟩, rfl⟩, ?_⟩
    have : it row j - it u j ≤ sh u row := by
      rw [sh, le_minL_iff (gaps_ne H hr hu)]
      intro y hy
      obtain ⟨i, hi, rfl⟩ := (gaps_it H hr hu).mp hy
      have := k i hi
      omega
    omega
theorem near_iff (H : Mk A w) (hr : row.length = w) : nea A row w = row ↔ mkd A w row := by
  constructor
  · intro e j hj
    rw [← near_ge H hr hj, e]
    exact Int.le_refl _
  · intro h
    refine it_ext (by rw [nea, md_len, hr]) fun j hj => ?_
    have hj' : j < w := by rw [nea, md_len] at hj; exact hj
    exact Int.le_antisymm (near_le H hr hj') ((near_ge H hr hj').mpr (h j hj'))
/-! plain rows -/
def pl (r : List Int) : List Int := r.map fun x => x - it r 0
theorem pl_len {r : List Int} : (pl r).length = r.length := by simp [pl]
theorem it_pl {r : List Int} {j : Nat} (h : j < r.length) : it (pl r) j = it r j - it r 0 := by
  have e : ∀ c : Int, it (r.map fun x => x - c) j = it r j - c := fun c => by
    unfold it
    rw [List.getD_eq_getElem?_getD, List.getElem?_map, List.getD_eq_getElem?_getD, List.getElem?_eq_getElem h]; rfl
  exact e _
theorem P_plain {r : List Int} (h : 1 ≤ r.length) : p_plain_row r = some (pl r) := by
  unfold p_plain_row
  have e : L2.atI r 0 = some (it r 0) := atI_it (j := 0) (by omega)
  rw [mapO_some (f := fun x => x - it r 0) fun x _ => by rw [e]; rfl]; rfl
/-- rows that are just later or earlier have one plain row -/
theorem pl_eq {u v : List Int} (hw : 1 ≤ w) (hu : u.length = w) (hv : v.length = w) {j : Nat} (hj : j < w) (h1 : blw w j u v) (h2 : blw w j v u) : pl u = pl v := by
  refine it_ext (by rw [pl_len, pl_len]; omega) fun i hi => ?_
  rw [pl_len] at hi
  rw [it_pl hi, it_pl (by omega)]
  have a1 := h1 i (by omega); have a2 := h2 i (by omega); have a3 := h1 0 (by omega); have a4 := h2 0 (by omega)
  omega
theorem blw_pl_l {u v : List Int} (hu : u.length = w) {j : Nat} (hj : j < w) : blw w j (pl u) v ↔ blw w j u v := by
  unfold blw
  refine forall_congr' fun i => forall_congr' fun hi => ?_
  rw [it_pl (by omega), it_pl (by omega)]
  omega
theorem blw_pl_r {u v : List Int} (hv : v.length = w) {j : Nat} (hj : j < w) : blw w j u (pl v) ↔ blw w j u v := by
  unfold blw
  refine forall_congr' fun i => forall_congr' fun hi => ?_
  rw [it_pl (by omega), it_pl (by omega)]
  omega
theorem pl_pl {r : List Int} (h : 1 ≤ r.length) : pl (pl r) = pl r := by
  refine it_ext (by rw [pl_len]) fun i hi => ?_
  rw [pl_len, pl_len] at hi
  rw [it_pl (by rw [pl_len]; exact hi), it_pl hi, it_pl h]
  omega
end Wk25
set_option Elab.async false
set_option linter.all false
set_option maxRecDepth 100000
set_option maxHeartbeats 400000
namespace Wk25
open PySem PL
variable {A : List (List Int)} {w : Nat} {row s : List Int}
theorem enumQ_map {α β : Type} {xs : List α} {k : Nat} (f : Int → β) : (enumQ k xs).map (fun p => f p.1) = (List.range xs.length).map fun (j : Nat) => f ((k + j : Nat) : Int) := by
  induction xs generalizing k with
  | nil => rfl
  | cons x xs ih =>
    rw [List.length_cons, List.range_succ_eq_map, List.map_cons, List.map_map]
    unfold enumQ
    rw [List.map_cons, ih]
    congr 1
    apply List.map_congr_left
    intro j _
    simp only [Function.comp_apply]
    congr 1
    omega
theorem enumQ_map0 {α β : Type} {xs : List α} (f : Int → β) : (enumQ 0 xs).map (fun p => f p.1) = (rg xs.length).map f := by
  rw [enumQ_map, rg_map]
  apply List.map_congr_left
  intro j _
  rw [Nat.zero_add]
/-- the makers that come to place j -/
def sec (A : List (List Int)) (row : List Int) (j : Nat) : List Int := ((enumQ 0 A).filter fun p => decide (it p.2 j + sh p.2 row = it row j)).map (·.1)
theorem sec_core (H : Mk A w) (hr : row.length = w) {j : Nat} (hj : j < w) {b : Int × List Int → Unit → Option (Option Int × Unit)} (hb : ∀ p, ∀ u, b p u = ((L2.atI p.2 (j : Int)).bind fun x => (L2.atI (shs A row) p.1).bind fun y => some (decide ((x + y) = it row j))).bind fun t => if t = true then (some ((p.1 : Int), ())).map fun y => (some y.1, y.2) else some (none, ())) : lcS (enumQ 0 A) () b = some (sec A row j, ()) := by
  rw [lcS_filter (c := fun p => decide (it p.2 j + sh p.2 row = it row j)) (f := fun p => p.1) fun p hp u => ?_]
  · rfl
  · obtain ⟨a, h1, h2⟩ := mem_enumQ hp
    rw [Nat.zero_add] at h2
    have hm := List.mem_of_getElem? h1
    have hl := H.r _ hm
    have e2 : L2.atI (shs A row) (a : Int) = some (sh p.2 row) := by
      rw [atI_nat, shs, List.getElem?_map, h1]; rfl
    rw [hb p u, atI_it (by omega), Option.bind_some, h2, e2, Option.bind_some, Option.bind_some]
    by_cases c : it p.2 j + sh p.2 row = it row j
    · rw [if_pos (by simpa using c), if_pos (by simpa using c)]; rfl
    · rw [if_neg (by simpa using c), if_neg (by simpa using c)]
theorem bind_id {α : Type} (o : Option α) : (o.bind fun a => some a) = o := by cases o <;> rfl
theorem P_sectors (H : Mk A w) (hr : row.length = w) : p_sectors A row = some ((rg w).map fun i => sec A row i.toNat) := by
  have := H.w2
  unfold p_sectors
  rw [P_greatest_shifts H hr, Option.bind_some, forG_app (fun p => sec A row p.1.toNat) (fun p hp g => ?_) (by
    have e : (enumQ 0 row).length = row.length := by have := congrArg List.length (enumQ_map0 (xs := row) fun i => i); simpa [rg_length] using this
    rw [e]; simp; omega), Option.bind_some, enumQ_map0 (fun i => sec A row i.toNat), hr]
  · rfl
  · obtain ⟨j, h1, h2⟩ := mem_enumQ hp
    rw [Nat.zero_add] at h2
    have hj : j < w := by have := (List.getElem?_eq_some_iff.mp h1).1; omega
    have e2 : p.2 = it row j := by unfold it; rw [List.getD_eq_getElem?_getD, h1]; rfl
    rw [sec_core H hr hj fun q u => by rw [h2, e2], Option.bind_some, h2, Int.toNat_natCast, bind_id]
theorem mem_sec (H : Mk A w) {j a : Nat} {m : List Int} (h : A[a]? = some m) : (a : Int) ∈ sec A row j ↔ it m j + sh m row = it row j := by
  unfold sec
  rw [List.mem_map]
  constructor
  · rintro ⟨p, hp, e⟩
    rw [List.mem_filter, decide_eq_true_eq] at hp
    obtain ⟨b, h1, h2⟩ := mem_enumQ hp.1
    have : b = a := by omega
    subst this
    rw [h] at h1
    cases h1
    exact hp.2
  · intro e
    have : ∀ (A : List (List Int)) (k a : Nat), A[a]? = some m → (((k + a : Nat) : Int), m) ∈ enumQ k A := by
      intro A
      induction A with
      | nil => intro k a h; simp at h
      | cons x A ih =>
        intro k a h
        unfold enumQ
        cases a with
        | zero => simp at h; subst h; exact List.mem_cons_self
        | succ a =>
          refine List.mem_cons_of_mem _ ?_
          have := ih (k + 1) a (by simpa using h)
          rwa [show k + 1 + a = k + (a + 1) by omega] at this
    have hm := this A 0 a h
    rw [Nat.zero_add] at hm
    exact ⟨((a : Int), m), List.mem_filter.mpr ⟨hm, by simpa using e⟩, rfl⟩
/-- the places to which a maker comes -/
def cut (w : Nat) (row m : List Int) : List Int := (rg w).filter fun i => decide (it m i.toNat + sh m row = it row i.toNat)
theorem P_cut_by (H : Mk A w) (hr : row.length = w) : p_cut_by A row = some (A.map (cut w row)) := by
  have := H.n2
  unfold p_cut_by
  have ez : (A.zip (shs A row)).map (fun p => cut w row p.1) = A.map (cut w row) := by
    have : ∀ (A : List (List Int)) (g : List Int → Int), (A.zip (A.map g)).map (fun p => cut w row p.1) = A.map (cut w row) := by
      intro A g
      induction A with
      | nil => rfl
      | cons a A ih => rw [List.map_cons, List.zip_cons_cons, List.map_cons, List.map_cons, ih]
    exact this A _
  rw [P_greatest_shifts H hr, Option.bind_some, forG_app (fun p => cut w row p.1) (fun p hp g => ?_) (by simp [shs]; omega), Option.bind_some, ez]
  · rfl
  · obtain ⟨hm, e⟩ := zip_map.mp hp
    have hl := H.r _ hm
    rw [lcS_filter (c := fun q : Int × Int => decide (it p.1 q.1.toNat + sh p.1 row = it row q.1.toNat)) (f := fun q => q.1) fun q hq u => ?_]
    · have e3 : ((enumQ 0 row).filter fun q : Int × Int => decide (it p.1 q.1.toNat + sh p.1 row = it row q.1.toNat)).map (fun q => q.1) = cut w row p.1 := by
        have gen : ∀ (xs : List (Int × Int)) (c : Int → Bool), (xs.filter fun q => c q.1).map (·.1) = (xs.map (·.1)).filter c := by
          intro xs c
          rw [List.filter_map]; rfl
        rw [gen _ fun i => decide (it p.1 i.toNat + sh p.1 row = it row i.toNat), enumQ_map0 (fun i => i), hr, List.map_id'' (fun _ => rfl)]; rfl
      rw [e3, Option.bind_some, bind_id]
    · obtain ⟨j, h1, h2⟩ := mem_enumQ hq
      rw [Nat.zero_add] at h2
      have hj : j < w := by have := (List.getElem?_eq_some_iff.mp h1).1; omega
      have e2 : q.2 = it row j := by unfold it; rw [List.getD_eq_getElem?_getD, h1]; rfl
      rw [h2, atI_it (by omega), Option.bind_some, Option.bind_some, e, e2, Int.toNat_natCast]
      by_cases c : it p.1 j + sh p.1 row = it row j
      · rw [if_pos (by simpa using c), if_pos (by simpa using c)]; rfl
      · rw [if_neg (by simpa using c), if_neg (by simpa using c)]
theorem cut_ne (H : Mk A w) (hr : row.length = w) {m : List Int} (h : m ∈ A) : cut w row m ≠ [] := by
  intro z
  obtain ⟨j, hj, e⟩ := (gaps_it H hr h).mp (minL_mem (gaps_ne H hr h))
  have e2 : sh m row = it row j - it m j := e
  have : (j : Int) ∈ cut w row m := List.mem_filter.mpr ⟨mem_rg.mpr ⟨j, hj, rfl⟩, by rw [Int.toNat_natCast]; simp; omega⟩
  rw [z] at this
  cases this
/-- a row is made exactly if each place has its maker -/
theorem near_sec (H : Mk A w) (hr : row.length = w) : decide (nea A row w = row) = ((rg w).map fun i => sec A row i.toNat).all fun l => !decide (l = []) := by
  rw [Bool.eq_iff_iff, decide_eq_true_eq, near_iff H hr, List.all_eq_true]
  constructor
  · intro h l hl
    obtain ⟨i, hi, rfl⟩ := List.mem_map.mp hl
    obtain ⟨j, hj, rfl⟩ := mem_rg.mp hi
    obtain ⟨u, hu, k⟩ := h j hj
    obtain ⟨a, ha⟩ := List.mem_iff_getElem?.mp hu
    have hge : it row j - it u j ≤ sh u row := by
      rw [sh, le_minL_iff (gaps_ne H hr hu)]
      intro y hy
      obtain ⟨i, hi, rfl⟩ := (gaps_it H hr hu).mp hy
      have := k i hi
      omega
    have hle : sh u row ≤ it row j - it u j := minL_le ((gaps_it H hr hu).mpr ⟨j, hj, rfl⟩)
    have := (mem_sec (row := row) H ha (j := j)).mpr (by omega)
    rw [Int.toNat_natCast]
    cases e : sec A row j with
    | nil => rw [e] at this; cases this
    | cons _ _ => rfl
  · intro h j hj
    have := h (sec A row j) (List.mem_map.mpr ⟨(j : Int), mem_rg.mpr ⟨j, hj, rfl⟩, by rw [Int.toNat_natCast]⟩)
    cases e : sec A row j with
    | nil => rw [e] at this; simp at this
    | cons x xs =>
      have hx : x ∈ sec A row j := by rw [e]; exact List.mem_cons_self
      unfold sec at hx
      obtain ⟨p, hp, rfl⟩ := List.mem_map.mp hx
      rw [List.mem_filter, decide_eq_true_eq] at hp
      obtain ⟨b, h1, h2⟩ := mem_enumQ hp.1
      have hm := List.mem_of_getElem? h1
      refine ⟨p.2, hm, fun i hi => ?_⟩
      have : sh p.2 row ≤ it row i - it p.2 i := minL_le ((gaps_it H hr hm).mpr ⟨i, hi, rfl⟩)
      have := hp.2
      omega
/-! steps -/
def stp (a b : List Int) (n : Int) : List Int := (a.zip b).map fun x => max x.1 (x.2 + n)
def dif (a b : List Int) : List Int := (a.zip b).map fun x => x.1 - x.2
theorem stp_len {a b : List Int} {n : Int} (ha : a.length = w) (hb : b.length = w) : (stp a b n).length = w := by simp [stp]; omega
theorem zip_it {a b : List Int} {f : Int × Int → Int} (ha : a.length = w) (hb : b.length = w) {j : Nat} (hj : j < w) : it ((a.zip b).map f) j = f (it a j, it b j) := by
  have e : (a.zip b)[j]? = some (it a j, it b j) := by
    rw [List.getElem?_eq_getElem (by rw [List.length_zip]; omega), List.getElem_zip]
    unfold it
    rw [List.getD_eq_getElem?_getD, List.getD_eq_getElem?_getD, List.getElem?_eq_getElem (by omega), List.getElem?_eq_getElem (by omega)]; rfl
  unfold it
  rw [List.getD_eq_getElem?_getD, List.getElem?_map, e]; rfl
theorem dif_ne {a b : List Int} (hw : 1 ≤ w) (ha : a.length = w) (hb : b.length = w) : dif a b ≠ [] := by
  intro z
  have := congrArg List.length z
  simp only [dif, List.length_map, List.length_zip, List.length_nil] at this
  omega
theorem mem_dif {a b : List Int} (ha : a.length = w) (hb : b.length = w) {g : Int} : g ∈ dif a b ↔ ∃ j < w, g = it a j - it b j := by
  unfold dif
  rw [List.mem_map]
  constructor
  · rintro ⟨p, hp, rfl⟩
    obtain ⟨j, hj, rfl⟩ := (mem_zip_it (by omega)).mp hp
    exact ⟨j, by omega, rfl⟩
  · rintro ⟨j, hj, rfl⟩
    exact ⟨_, (mem_zip_it (by omega)).mpr ⟨j, by omega, rfl⟩, rfl⟩
theorem P_far {a b : List Int} (hw : 1 ≤ w) (ha : a.length = w) (hb : b.length = w) : p_far a b = some (maxL (dif a b) - minL (dif a b)) := by
  unfold p_far
  have : a ≠ [] := fun z => by rw [z] at ha; simp at ha; omega
  rw [if_neg (by rw [P_are_integers rfl, P_are_integers (s := b) (k := a.length) (by omega)]; simp [p_is_row_i2, this]), letQ_eq]
  show (maxO (dif a b)).bind _ = _
  rw [maxO_some (dif_ne hw ha hb), Option.bind_some]
  show (minO (dif a b)).bind _ = _
  rw [minO_some (dif_ne hw ha hb), Option.bind_some]
theorem far_sym {a b : List Int} (hw : 1 ≤ w) (ha : a.length = w) (hb : b.length = w) : maxL (dif a b) - minL (dif a b) = maxL (dif b a) - minL (dif b a) := by
  have key : ∀ {a b : List Int}, a.length = w → b.length = w → maxL (dif b a) = - minL (dif a b) := by
    intro a b ha hb
    apply Int.le_antisymm
    · rw [maxL_le_iff (dif_ne hw hb ha)]
      intro y hy
      obtain ⟨j, hj, rfl⟩ := (mem_dif hb ha).mp hy
      have : minL (dif a b) ≤ it a j - it b j := minL_le ((mem_dif ha hb).mpr ⟨j, hj, rfl⟩)
      omega
    · obtain ⟨j, hj, e⟩ := (mem_dif ha hb).mp (minL_mem (dif_ne hw ha hb))
      have : it b j - it a j ≤ maxL (dif b a) := maxL_ge ((mem_dif hb ha).mpr ⟨j, hj, rfl⟩)
      omega
  have k1 := key ha hb
  have k2 := key hb ha
  omega
theorem P_step {a b : List Int} {n : Int} (ha : a.length = w) (hb : b.length = w) : p_step_row a b n = some (stp a b n) := by
  unfold p_step_row
  rw [if_neg (by rw [P_are_integers rfl, P_are_integers (s := b) (k := a.length) (by omega)]; simp [p_is_row_i2]), if_neg (by simp [p_is_integer])]; rfl
theorem setI_dif {a b : List Int} (h2 : w ≤ 8) (ha : a.length = w) (hb : b.length = w) : setI (dif a b) = some (ascA ltI (dif a b)) := by
  unfold setI
  rw [if_pos]
  simp [dif]; omega
def kin (a b : List Int) : List (List Int) := (ascA ltI (dif a b)).map fun n => pl (stp a b n)
theorem P_kinks {a b : List Int} (hw : 1 ≤ w) (h2 : w ≤ 8) (ha : a.length = w) (hb : b.length = w) : p_kinks a b = some (kin a b) := by
  unfold p_kinks
  rw [if_neg (by rw [P_are_integers rfl, P_are_integers (s := b) (k := a.length) (by omega)]; simp [p_is_row_i2]; intro z; rw [z] at ha; simp at ha; omega)]
  show (setI (dif a b)).bind _ = _
  rw [setI_dif h2 ha hb, Option.bind_some, mapO_some (f := fun n => pl (stp a b n)) fun n _ => by rw [P_step ha hb, Option.bind_some, P_plain (by rw [stp_len ha hb]; exact hw), Option.bind_some]]; rfl
/-- a step row is made by the two -/
theorem stp_made {a b : List Int} {n : Int} (hw : 1 ≤ w) (ha : a.length = w) (hb : b.length = w) : mkd [a, b] w (pl (stp a b n)) := by
  intro j hj
  by_cases c : it b j + n ≤ it a j
  · refine ⟨a, by simp, (blw_pl_r (stp_len ha hb) hj).mpr fun i hi => ?_⟩
    unfold stp
    rw [zip_it ha hb hi, zip_it ha hb hj]
    dsimp only
    omega
  · refine ⟨b, by simp, (blw_pl_r (stp_len ha hb) hj).mpr fun i hi => ?_⟩
    unfold stp
    rw [zip_it ha hb hi, zip_it ha hb hj]
    dsimp only
    omega
theorem stp_first {a b : List Int} (hw : 1 ≤ w) (ha : a.length = w) (hb : b.length = w) {n : Int} (hn : ∀ y ∈ dif a b, n ≤ y) : pl (stp a b n) = pl a := by
  have : stp a b n = a := by
    refine it_ext (by rw [stp_len ha hb, ha]) fun j hj => ?_
    rw [stp_len ha hb] at hj
    unfold stp
    rw [zip_it ha hb hj]
    have := hn _ ((mem_dif ha hb).mpr ⟨j, hj, rfl⟩)
    dsimp only
    omega
  rw [this]
theorem stp_last {a b : List Int} (hw : 1 ≤ w) (ha : a.length = w) (hb : b.length = w) {n : Int} (hn : ∀ y ∈ dif a b, y ≤ n) : pl (stp a b n) = pl b := by
  have e : ∀ j < w, it (stp a b n) j = it b j + n := fun j hj => by
    unfold stp
    rw [zip_it ha hb hj]
    have := hn _ ((mem_dif ha hb).mpr ⟨j, hj, rfl⟩)
    dsimp only
    omega
  refine it_ext (by rw [pl_len, pl_len, stp_len ha hb, hb]) fun j hj => ?_
  rw [pl_len, stp_len ha hb] at hj
  rw [it_pl (by rw [stp_len ha hb]; exact hj), it_pl (by omega), e j hj, e 0 (by omega)]
  omega
end Wk25
set_option Elab.async false
set_option linter.all false
set_option maxRecDepth 100000
set_option maxHeartbeats 1000000
namespace Wk25
open PySem PL
variable {A : List (List Int)} {w : Nat} {row s : List Int}
theorem draw_ok : Dr drawQ := fun _ _ hh hl => drawF_ok (MIX := mixA 11) (k1 := 40692) (k2 := 2147483399) rfl mixA_ok (by decide) hh hl
theorem hand_ok (ns : List Int) : ∃ h, handQ ns = some h ∧ HdL h := handG_ok (MIX := hmixB 1) rfl hmixB_ok ns
theorem P_makers {w : Nat} (hw : 1 ≤ w ∧ w ≤ 8) {h : List PV} (hh : HdL h) : ∃ A h', p__law_makers h (w : Int) = some (A, h') ∧ Mk A w ∧ A.length ≤ 3 ∧ HdL h' := by
  unfold p__law_makers
  obtain ⟨d, h1, e1, a1, b1, hh1⟩ := draw_ok h 3 hh (by omega)
  obtain ⟨n, hn⟩ : ∃ n : Nat, 1 + d = n := ⟨(1 + d).toNat, by omega⟩
  rw [e1, Option.bind_some]
  dsimp only
  rw [hn, rng1_nat (by omega), Option.bind_some, rng1_nat (by omega)]
  simp only [Option.bind_some]
  obtain ⟨A, h2, e2, l2, m2, hh2⟩ := rows_ok draw_ok (xs := rg n) (zs := rg w) (fun x => x - 3) (lim := 9) (by omega) hh1
  rw [e2]
  refine ⟨A, h2, rfl, ⟨?_, ?_, hw.1, hw.2, ?_⟩, ?_, hh2⟩
  · rw [l2, rg_length]; omega
  · rw [l2, rg_length]; omega
  · intro r hr
    rw [(m2 r hr).1, rg_length]
  · rw [l2, rg_length]; omega
/-! lots -/
structure Lot (n : Nat) (l : List Int) : Prop where
  asc : l.Pairwise (· < ·)
  b : ∀ x ∈ l, 0 ≤ x ∧ x < n
theorem P_lots {n : Nat} (hn : n ≤ 3) (h1 : 1 ≤ n) : ∃ L, p__law_lots (n : Int) = some L ∧ (∀ l ∈ L, Lot n l) ∧ (∃ l ∈ L, l ≠ []) ∧ L.length ≤ 8 := by
  have key : ∀ (n : Nat) (M : List (List Int)), n ≤ 3 → ((rng1 (n : Int)).bind fun r_791 => forG r_791 (([[]] : (List (List Int))) : (List (List Int))) fun x_792 g_807 => (mapO g_807 fun x_808 => (catO x_808 ([x_792])).bind fun c_811 => some (c_811 : (List Int))).bind fun ys_812 => (catO g_807 ys_812).bind fun c_813 => some c_813) = some M → M.length ≤ 8 → (∃ l ∈ M, l ≠ []) → (∀ l ∈ M, Lot n l) → ∃ L, p__law_lots (n : Int) = some L ∧ (∀ l ∈ L, Lot n l) ∧ (∃ l ∈ L, l ≠ []) ∧ L.length ≤ 8 := by
    intro n M hn e hl h1 h2
    refine ⟨sortT M, ?_, fun l hm => h2 l ((sortT_perm M).mem_iff.mp hm), ?_, by rw [(sortT_perm M).length_eq]; exact hl⟩
    · unfold p__law_lots
      rw [rng1_nat (by omega), Option.bind_some] at e ⊢
      rw [e]; rfl
    · obtain ⟨l, a, b⟩ := h1
      exact ⟨l, (sortT_perm M).mem_iff.mpr a, b⟩
  have lot : ∀ {n : Nat} {l : List Int}, (l.Pairwise (· < ·) ∧ ∀ x ∈ l, 0 ≤ x ∧ x < (n : Int)) → Lot n l := fun h => ⟨h.1, h.2⟩
  obtain rfl | rfl | rfl : n = 1 ∨ n = 2 ∨ n = 3 := by omega
  · exact key 1 [[], [0]] (by omega) (by decide +kernel) (by decide) ⟨[0], by decide, by decide⟩ fun l h => lot (by revert l; decide)
  · exact key 2 [[], [0], [1], [0, 1]] (by omega) (by decide +kernel) (by decide) ⟨[0], by decide, by decide⟩ fun l h => lot (by revert l; decide)
  · exact key 3 [[], [0], [1], [0, 1], [2], [0, 2], [1, 2], [0, 1, 2]] (by omega) (by decide +kernel) (by decide) ⟨[0], by decide, by decide⟩ fun l h => lot (by revert l; decide)
theorem pw_zip : ∀ {cs : List Int}, cs.Pairwise (· < ·) → ∀ p ∈ cs.zip cs.tail, p.1 < p.2
  | [], _, p, hp => by simp at hp
  | [_], _, p, hp => by simp at hp
  | a :: b :: cs, h, p, hp => by
    rw [List.tail_cons, List.zip_cons_cons] at hp
    rw [List.pairwise_cons] at h
    rcases List.mem_cons.mp hp with rfl | hp
    · exact h.1 b List.mem_cons_self
    · exact pw_zip (cs := b :: cs) h.2 p hp
theorem P_check_lot {n : Nat} {l : List Int} (h : Lot n l) : p_check_lot l (n : Int) = some () := by
  unfold p_check_lot p_is_lot
  have e1 : ((l.map fun (x_233 : Int) => ((p_is_within x_233 (0 : Int) ((n : Int) - (1 : Int))) : Bool)).all id) = true := by
    rw [List.all_map, List.all_eq_true]
    intro x hx
    have := h.b x hx
    simp [p_is_within, p_is_integer]; omega
  have e2 : ((l.zip (cutP l (some (1 : Int)) none)).map fun (x_235 : (Int × Int)) => (decide (x_235.1 < x_235.2) : Bool)).all id = true := by
    rw [cutP_tail, List.all_map, List.all_eq_true]
    intro p hp
    simpa using pw_zip h.asc p hp
  rw [e1, e2]; rfl
def pick (A : List (List Int)) (l : List Int) : List (List Int) := l.map fun x => A.getD x.toNat []
theorem pick_Mk (H : Mk A w) {l : List Int} (h : Lot A.length l) (h0 : l ≠ []) (hl : l.length ≤ 8) : Mk (pick A l) w := by
  refine ⟨?_, by simpa [pick] using hl, H.w1, H.w2, fun r hr => ?_⟩
  · rw [pick, List.length_map]; exact List.length_pos_iff.mpr h0
  · obtain ⟨x, hx, rfl⟩ := List.mem_map.mp hr
    have := h.b x hx
    rw [List.getD_eq_getElem?_getD, List.getElem?_eq_getElem (by omega)]
    exact H.r _ (List.getElem_mem _)
theorem P_pick {l : List Int} (h : Lot A.length l) : (mapO l fun x_369 => (L2.atI A x_369).bind fun x_372 => some (x_372 : (List Int))) = some (pick A l) := by
  refine mapO_some fun x hx => ?_
  obtain ⟨h0, h1⟩ := h.b x hx
  obtain ⟨k, rfl⟩ : ∃ k : Nat, x = (k : Int) := ⟨x.toNat, by omega⟩
  rw [atI_nat, Int.toNat_natCast, List.getD_eq_getElem?_getD, List.getElem?_eq_getElem (by omega)]; rfl
theorem lot_len {n : Nat} (hn : n ≤ 8) {l : List Int} (h : Lot n l) : l.length ≤ 8 := by
  have nd : l.Nodup := h.asc.imp fun h => by omega
  have : ∀ (L P : List Int), L.Nodup → (∀ y ∈ L, y ∈ P) → L.length ≤ P.length := by
    intro L
    induction L with
    | nil => intro P _ _; simp
    | cons x L ih =>
      intro P h hs
      rw [List.nodup_cons] at h
      have hx := hs x List.mem_cons_self
      have := ih (P.erase x) h.2 fun y hy => by
        have hne : y ≠ x := fun e => h.1 (e ▸ hy)
        exact (List.mem_erase_of_ne hne).mpr (hs y (List.mem_cons_of_mem _ hy))
      rw [List.length_erase_of_mem hx] at this
      have := List.length_pos_of_mem hx
      simp only [List.length_cons]
      omega
  have := this l (rg n) nd fun y hy => mem_rg_i.mpr (h.b y hy)
  rw [rg_length] at this
  omega
theorem P_inner (H : Mk A w) (hr : row.length = w) {l : List Int} (h : Lot A.length l) (h0 : l ≠ []) : p_is_inner A row l = some (decide (nea (pick A l) row w = row)) := by
  unfold p_is_inner
  rw [P_check_like H hr, Option.bind_some, P_check_lot h, Option.bind_some, if_pos (by simpa using h0), P_pick h, Option.bind_some, P_is_in_span (pick_Mk H h h0 (lot_len H.n2 h)) hr]; rfl
end Wk25
set_option Elab.async false
set_option linter.all false
set_option maxRecDepth 100000
set_option maxHeartbeats 1000000
namespace Wk25
open PySem PL
variable {A : List (List Int)} {w : Nat} {row s : List Int}
def due (A : List (List Int)) (w : Nat) (row : List Int) : List (List Int) := (rg w).map fun i => sec A row i.toNat
theorem law_due (H : Mk A w) (hr : row.length = w) : (forG (rg w) (([] : (List (List Int))) : (List (List Int))) fun x_1671 g_1704 => (lcS (enumQ 0 A) () (fun x_1705 s_1713 => ((L2.atI x_1705.2 x_1671).bind fun x_1714 => (L2.atI (shs A row) x_1705.1).bind fun x_1715 => (L2.atI row x_1671).bind fun x_1716 => some (decide ((x_1714 + x_1715) = x_1716))).bind fun t_1717 => if t_1717 = true then (some ((x_1705.1 : Int), ())).map fun y => (some y.1, y.2) else some (none, ()))).bind fun ys_1718 => (appO g_1704 ys_1718.1).bind fun a_1719 => some a_1719) = some (due A w row) := by
  have := H.w2
  rw [forG_app (fun i => sec A row i.toNat) (fun i hi g => ?_) (by simp [rg_length]; omega)]
  · rfl
  · obtain ⟨j, hj, rfl⟩ := mem_rg.mp hi
    rw [sec_core H hr hj fun p u => by
      rw [show L2.atI row (j : Int) = some (it row j) from atI_it (by omega)]; simp only [Option.bind_some], Option.bind_some, bind_id, Int.toNat_natCast]
theorem law_lots (H : Mk A w) (hr : row.length = w) : (mapO (rg A.length) fun x_1723 => (some (rg w)).bind fun r_1734 => (lcS r_1734 () (fun x_1735 s_1739 => ((L2.atI (due A w row) x_1735).bind fun x_1740 => some (decide (x_1723 ∈ x_1740))).bind fun t_1741 => if t_1741 = true then (some ((x_1735 : Int), ())).map fun y => (some y.1, y.2) else some (none, ()))).bind fun ys_1742 => some (ys_1742.1 : (List Int))) = some (A.map (cut w row)) := by
  rw [mapO_some (f := fun i => cut w row (A.getD i.toNat [])) fun i hi => ?_]
  · congr 1
    apply List.ext_getElem
    · simp [rg_length]
    · intro a h1 h2
      rw [List.length_map] at h2
      simp only [rg, List.getElem_map, List.getElem_range, Int.toNat_natCast]
      rw [List.getD_eq_getElem?_getD, List.getElem?_eq_getElem h2]; rfl
  · obtain ⟨a, ha, rfl⟩ := mem_rg.mp hi
    rw [Option.bind_some, lcS_filter (c := fun i => decide (it (A.getD a []) i.toNat + sh (A.getD a []) row = it row i.toNat)) (f := fun i => i) fun i hi u => ?_, Option.bind_some, List.map_id'' (fun _ => rfl), Int.toNat_natCast]
    · rfl
    · obtain ⟨j, hj, rfl⟩ := mem_rg.mp hi
      have hA : A[a]? = some (A.getD a []) := by rw [List.getD_eq_getElem?_getD, List.getElem?_eq_getElem ha]; rfl
      have hd : L2.atI (due A w row) (j : Int) = some (sec A row j) := by
        rw [atI_nat, due, rg_map, List.getElem?_map, List.getElem?_range hj]; simp
      have hm := mem_sec (row := row) H hA (j := j)
      rw [hd, Option.bind_some, Option.bind_some, Int.toNat_natCast]
      by_cases c : it (A.getD a []) j + sh (A.getD a []) row = it row j
      · rw [if_pos (by simpa using hm.mpr c), if_pos (by simpa using c)]; rfl
      · rw [if_neg (by simpa using fun h => c (hm.mp h)), if_neg (by simpa using c)]
theorem asc_first {ns : List Int} (h : ns ≠ []) : ∃ n, L2.atI (ascA ltI ns) 0 = some n ∧ ∀ y ∈ ns, n ≤ y := by
  have hp := pw_ascA str_int (xs := ns)
  have hm : ∀ y, y ∈ ascA ltI ns ↔ y ∈ ns := fun y => mem_ascA str_int
  generalize ascA ltI ns = zs at hp hm
  cases zs with
  | nil =>
    cases ns with
    | nil => exact absurd rfl h
    | cons n ns => have := (hm n).mpr List.mem_cons_self; cases this
  | cons z zs =>
    refine ⟨z, by rw [atI_zero]; rfl, fun y hy => ?_⟩
    rw [List.pairwise_cons] at hp
    rcases List.mem_cons.mp ((hm y).mpr hy) with rfl | hy
    · exact Int.le_refl _
    · have := hp.1 y hy
      simp only [ltI, decide_eq_true_eq] at this
      omega
theorem asc_last {ns : List Int} (h : ns ≠ []) : ∃ n, L2.atI (ascA ltI ns) (-1) = some n ∧ ∀ y ∈ ns, y ≤ n := by
  have hp := pw_ascA str_int (xs := ns)
  have hm : ∀ y, y ∈ ascA ltI ns ↔ y ∈ ns := fun y => mem_ascA str_int
  generalize ascA ltI ns = zs at hp hm
  have hz : zs ≠ [] := fun z => by
    cases ns with
    | nil => exact absurd rfl h
    | cons n ns => have := (hm n).mpr List.mem_cons_self; rw [z] at this; cases this
  refine ⟨zs.getLast hz, by rw [atI_last, List.getLast?_eq_some_getLast hz], fun y hy => ?_⟩
  have hy := (hm y).mpr hy
  have e := List.dropLast_concat_getLast hz
  rw [← e] at hy hp
  rcases List.mem_append.mp hy with hy | hy
  · have := (List.pairwise_append.mp hp).2.2 y hy _ (List.mem_singleton.mpr rfl)
    simp only [ltI, decide_eq_true_eq] at this
    omega
  · rw [List.mem_singleton.mp hy]; exact Int.le_refl _
theorem atI_map {α β : Type} {xs : List α} {f : α → β} {i : Int} : L2.atI (xs.map f) i = (L2.atI xs i).map f := by
  unfold L2.atI
  rw [List.length_map]
  cases L2.ixN xs.length i with
  | none => rfl
  | some k => simp
theorem Mk_two {a b : List Int} (hw : 1 ≤ w ∧ w ≤ 8) (ha : a.length = w) (hb : b.length = w) : Mk [a, b] w := ⟨by simp, by simp, hw.1, hw.2, fun r hr => by
  simp only [List.mem_cons, List.not_mem_nil, or_false] at hr
  rcases hr with rfl | rfl
  · exact ha
  · exact hb⟩
theorem p_law_true (ns : List Int) : p_law ns = some true := by
  obtain ⟨h0, e0, hh0⟩ := hand_ok ns
  unfold p_law
  have k1 : p_sectors [[0, 2], [1, 0]] [1, 1] = some [[1], [0]] := by decide +kernel
  have k2 : p_far [0, 5] [3, 1] = some 7 := by decide +kernel
  have k3 : p_step_row [0, 5] [3, 1] 1 = some [4, 5] := by decide +kernel
  have k4 : p_kinks [0, 5] [3, 1] = some [[0, 5], [0, -2]] := by decide +kernel
  have k5 : sortT [[0, 5], [0, -2]] = [[0, -2], [0, 5]] := (sortT_eq (List.Perm.swap _ _ _) (by decide)).symm
  have k6 : p_is_inner [[0, 2], [1, 0]] [1, 1] [0] = some false := by decide +kernel
  rw [e0, Option.bind_some, letQ_eq]
  dsimp only
  rw [k1, Option.bind_some, if_neg (by decide), k2, Option.bind_some, Option.bind_some, if_neg (by decide), k3, Option.bind_some, if_neg (by decide), k4, Option.bind_some]
  simp only [k5]
  rw [if_neg (by decide), k6, Option.bind_some, Option.bind_some, if_neg (by decide), rng1_int (n := 5) (by omega), Option.bind_some]
  refine (forR_all (I := HdL) hh0 ?_).elim fun g' h => h.1
  intro lap _ g hg
  obtain ⟨d1, h1, e1, a1, b1, hh1⟩ := draw_ok g 4 hg (by omega)
  obtain ⟨w, hw⟩ : ∃ n : Nat, 1 + d1 = n := ⟨(1 + d1).toNat, by omega⟩
  rw [e1, Option.bind_some, letQ_eq]
  dsimp only
  rw [hw]
  obtain ⟨A, h2, e2, H, hl, hh2⟩ := P_makers (w := w) (by omega) hh1
  rw [e2, Option.bind_some]
  dsimp only
  rw [rng1_nat (by omega), Option.bind_some]
  obtain ⟨row0, h4, e4, l4, _, hh4⟩ := draws_ok draw_ok (xs := rg w) (fun x => x - 4) (lim := 11) (by omega) hh2
  rw [rg_length] at l4
  rw [e4, Option.bind_some]
  dsimp only
  obtain ⟨d5, h5, e5, _, _, hh5⟩ := draw_ok h4 2 hh4 (by omega)
  rw [e5, Option.bind_some]
  dsimp only
  obtain ⟨row, er, hr⟩ : ∃ row : List Int, (if decide (d5 = (0 : Int)) = true then (p__law_near A row0).bind fun r_1085 => some (r_1085 : (List Int)) else some (row0 : (List Int))) = some row ∧ row.length = w := by
    by_cases c : d5 = 0
    · exact ⟨nea A row0 w, by rw [if_pos (by simpa using c), P_law_near H l4]; rfl, by rw [nea, md_len]⟩
    · exact ⟨row0, by rw [if_neg (by simpa using c)], l4⟩
  rw [er, Option.bind_some]
  clear er e1 e2 e4 e5 k1 k2 k3 k4 k5 k6
  have hw1 := H.w1
  have hw2 := H.w2
  rw [P_law_shifts H hr, Option.bind_some]
  simp only [Option.bind_some]
  rw [law_due H hr, Option.bind_some, P_sectors H hr, Option.bind_some, if_neg (by simp [due]), rng1_nat (by omega), Option.bind_some]
  have hlots := law_lots H hr
  simp only [Option.bind_some] at hlots
  rw [hlots, Option.bind_some, P_cut_by H hr, Option.bind_some, if_neg (by
    simp only [decide_true, Bool.not_true, Bool.false_or, Bool.not_eq_true', Bool.not_eq_false]
    rw [List.all_map, List.all_eq_true]
    intro l hl
    obtain ⟨m, hm, rfl⟩ := List.mem_map.mp hl
    have := cut_ne H hr hm
    simpa using this), P_is_in_span2 H hr, Option.bind_some, if_neg (by rw [near_sec H hr, List.all_map]; simp [due, Function.comp_def])]
  obtain ⟨L, eL, L1, L2', L3⟩ := P_lots hl H.n1
  rw [eL, Option.bind_some, List.map_id'' (fun _ => rfl)]
  obtain ⟨l, h6, e6, m6, hh6⟩ := any_ok draw_ok (xs := L.filter fun (x_1751 : (List Int)) => (!decide (x_1751 = ([] : (List Int))))) (fun z => by
    obtain ⟨l, a, b⟩ := L2'
    have : l ∈ L.filter fun (x_1751 : (List Int)) => (!decide (x_1751 = ([] : (List Int)))) := List.mem_filter.mpr ⟨a, by simpa using b⟩
    rw [z] at this
    cases this) (by have := List.length_filter_le (fun (x_1751 : (List Int)) => (!decide (x_1751 = ([] : (List Int))))) L; omega) hh5
  have e7 : p__law_any h5 (L.filter fun (x_1751 : (List Int)) => (!decide (x_1751 = ([] : (List Int))))) = some (l, h6) := e6
  rw [List.mem_filter] at m6
  have hlot := L1 l m6.1
  have hl0 : l ≠ [] := by simpa using m6.2
  rw [e7, Option.bind_some]
  dsimp only
  rw [P_pick hlot, Option.bind_some, P_inner H hr hlot hl0, Option.bind_some, P_law_near2 (pick_Mk H hlot hl0 (lot_len H.n2 hlot)) hr, Option.bind_some, if_neg (by simp)]
  obtain ⟨one, h7, e8, m8, hh7⟩ := any_ok draw_ok (xs := A) (List.length_pos_iff.mp H.n1) (by omega) hh6
  have e9 : p__law_any_i2 h6 A = some (one, h7) := e8
  rw [e9, Option.bind_some]
  dsimp only
  obtain ⟨other, h8, e10, l10, _, hh8⟩ := draws_ok draw_ok (xs := rg w) (fun x => x - 4) (lim := 11) (by omega) hh7
  rw [rg_length] at l10
  rw [e10, Option.bind_some, letQ_eq, letQ_eq, letQ_eq]
  dsimp only
  have ho := H.r one m8
  have hd := dif_ne hw1 ho l10
  have ed : ((one.zip other).map fun (x_1773 : (Int × Int)) => ((x_1773.1 - x_1773.2) : Int)) = dif one other := rfl
  rw [ed, P_far hw1 ho l10, Option.bind_some, maxO_some hd, Option.bind_some, minO_some hd, Option.bind_some, if_neg (by simp), P_far hw1 l10 ho, Option.bind_some, Option.bind_some, far_sym hw1 l10 ho, Option.bind_some, if_neg (by simp)]
  obtain ⟨d9, h9, e11, _, _, hh9⟩ := draw_ok h8 15 hh8 (by omega)
  rw [e11, Option.bind_some, letQ_eq]
  dsimp only
  rw [P_step ho l10, Option.bind_some, if_neg (by simp [stp]), setI_dif hw2 ho l10, Option.bind_some, forG_app (fun n => pl (stp one other n)) (fun n hn g => by
    show (p_plain_row (stp one other n)).bind _ = _
    rw [P_plain (by rw [stp_len ho l10]; exact hw1), Option.bind_some, bind_id]) (by
    have := asc_le (lt := ltI) (dif one other)
    simp only [dif, List.length_map, List.length_zip, List.length_nil] at this ⊢
    omega), Option.bind_some, List.nil_append]
  have ek : (ascA ltI (dif one other)).map (fun n => pl (stp one other n)) = kin one other := rfl
  rw [ek, P_kinks hw1 hw2 ho l10, Option.bind_some, if_neg (by simp), mapO_some (f := fun _ => true) fun r hr => by
    obtain ⟨n, _, rfl⟩ := List.mem_map.mp hr
    have HM := Mk_two ⟨hw1, hw2⟩ ho l10
    have hl : (pl (stp one other n)).length = w := by rw [pl_len, stp_len ho l10]
    rw [P_is_in_span HM hl, Option.bind_some, (near_iff HM hl).mpr (stp_made hw1 ho l10)]; simp]
  rw [Option.bind_some, if_neg (by simp)]
  obtain ⟨n1, en1, hn1⟩ := asc_first hd
  obtain ⟨n2, en2, hn2⟩ := asc_last hd
  unfold kin
  rw [atI_map, en1, Option.map_some, Option.bind_some, P_plain (by omega), Option.bind_some, if_neg (by rw [stp_first hw1 ho l10 hn1]; simp), atI_map, en2, Option.map_some, Option.bind_some, P_plain (by omega), Option.bind_some, Option.bind_some, if_neg (by rw [stp_last hw1 ho l10 hn2]; simp)]
  exact ⟨h9, rfl, hh9⟩
theorem law_true (ns : List Int) : ∃ as2, F_law [.fz (.scr (Ints ns))] = some (.fz (.bl true), as2) := by
  obtain ⟨v, ss, e, h1, _⟩ := q_law (p_law_true ns) [.fz (eScr ns)] (.cons rfl .nil)
  refine ⟨ss, ?_⟩
  rw [e]
  cases v with
  | fz p => cases h1; rfl
  | own p => cases h1
end Wk25
open PySem PySem.W PyProof.Rows in
set_option maxRecDepth 100000 in
set_option maxHeartbeats 0 in
theorem PySem.Challenge.cw_latersums_k25_whole_sectors_steps_and_ki_holds : PySem.Challenge.rw_latersums_k25_whole_sectors_steps_and_ki.Holds := by
  w_on; o_law; k_head; (case hw => w_witness2)
  k_fill
  refine L2.walk_of (l := PySem.Challenge.rw_latersums_k25_whole_sectors_steps_and_ki) (n := 63) (k := 7) (x := "script") (CX := fun _ => L2.CX0) (sp := fun w => PL.spEnd _) rfl (by decide) rfl ⟨rfl, by decide, by decide⟩ (fun w h Y => PySem.W.kIn_of Y) ?F (fun _ _ a ns hl _ hS => ⟨a, ns, rfl, hS, hl, fun _ => rfl⟩) (fun _ _ _ _ _ h => h)
  case F =>
    intro w mg fa h KX G hmg
    refine' Wk25.all_mk (fun ns _ => Wk25.law_true ns) KX G hmg ?a0 ?l0 ?c0 ?k0 ?a1 ?l1 ?c1 ?k1 ?a2 ?l2 ?c2 ?k2 ?a3 ?l3 ?c3 ?k3 ?a4 ?l4 ?c4 ?k4 ?a5 ?l5 ?c5 ?k5 ?a6 ?l6 ?c6 ?k6 ?a7 ?l7 ?c7 ?k7 ?a8 ?l8 ?c8 ?k8 ?a9 ?l9 ?c9 ?k9 ?a10 ?l10 ?c10 ?k10 ?a11 ?l11 ?c11 ?k11 ?a12 ?l12 ?c12 ?k12 ?a13 ?l13 ?c13 ?k13 ?a14 ?l14 ?c14 ?k14 ?a15 ?l15 ?c15 ?k15 ?a16 ?l16 ?c16 ?k16 ?a17 ?l17 ?c17 ?k17 ?a18 ?l18 ?c18 ?k18 ?a19 ?l19 ?c19 ?k19 ?a20 ?l20 ?c20 ?k20 ?a21 ?l21 ?c21 ?k21 ?a22 ?l22 ?c22 ?k22 ?a23 ?l23 ?c23 ?k23 ?a24 ?l24 ?c24 ?k24 ?a25 ?l25 ?c25 ?k25 ?a26 ?l26 ?c26 ?k26 ?z_abs ?z_all ?z_bool ?z_enumerate ?z_int ?z_isinstance ?z_len ?z_list ?z_max ?z_min ?z_range ?z_repr ?z_set ?z_sorted ?z_tuple ?z_zip ?z_MOST_MAKERS ?z_MOST_WIDE
    (case a0 => k_is)
    (case l0 => k_is)
    (case c0 => k_is)
    (case k0 => k_is)
    (case a1 => k_is)
    (case l1 => k_is)
    (case c1 => k_is)
    (case k1 => k_is)
    (case a2 => k_is)
    (case l2 => k_is)
    (case c2 => k_is)
    (case k2 => k_is)
    (case a3 => k_is)
    (case l3 => k_is)
    (case c3 => k_is)
    (case k3 => k_is)
    (case a4 => k_is)
    (case l4 => k_is)
    (case c4 => k_is)
    (case k4 => k_is)
    (case a5 => k_is)
    (case l5 => k_is)
    (case c5 => k_is)
    (case k5 => k_is)
    (case a6 => k_is)
    (case l6 => k_is)
    (case c6 => k_is)
    (case k6 => k_is)
    (case a7 => k_is)
    (case l7 => k_is)
    (case c7 => k_is)
    (case k7 => k_is)
    (case a8 => k_is)
    (case l8 => k_is)
    (case c8 => k_is)
    (case k8 => k_is)
    (case a9 => k_is)
    (case l9 => k_is)
    (case c9 => k_is)
    (case k9 => k_is)
    (case a10 => k_is)
    (case l10 => k_is)
    (case c10 => k_is)
    (case k10 => k_is)
    (case a11 => k_is)
    (case l11 => k_is)
    (case c11 => k_is)
    (case k11 => k_is)
    (case a12 => k_is)
    (case l12 => k_is)
    (case c12 => k_is)
    (case k12 => k_is)
    (case a13 => k_is)
    (case l13 => k_is)
    (case c13 => k_is)
    (case k13 => k_is)
    (case a14 => k_is)
    (case l14 => k_is)
    (case c14 => k_is)
    (case k14 => k_is)
    (case a15 => k_is)
    (case l15 => k_is)
    (case c15 => k_is)
    (case k15 => k_is)
    (case a16 => k_is)
    (case l16 => k_is)
    (case c16 => k_is)
    (case k16 => k_is)
    (case a17 => k_is)
    (case l17 => k_is)
    (case c17 => k_is)
    (case k17 => k_is)
    (case a18 => k_is)
    (case l18 => k_is)
    (case c18 => k_is)
    (case k18 => k_is)
    (case a19 => k_is)
    (case l19 => k_is)
    (case c19 => k_is)
    (case k19 => k_is)
    (case a20 => k_is)
    (case l20 => k_is)
    (case c20 => k_is)
    (case k20 => k_is)
    (case a21 => k_is)
    (case l21 => k_is)
    (case c21 => k_is)
    (case k21 => k_is)
    (case a22 => k_is)
    (case l22 => k_is)
    (case c22 => k_is)
    (case k22 => k_is)
    (case a23 => k_is)
    (case l23 => k_is)
    (case c23 => k_is)
    (case k23 => k_is)
    (case a24 => k_is)
    (case l24 => k_is)
    (case c24 => k_is)
    (case k24 => k_is)
    (case a25 => k_is)
    (case l25 => k_is)
    (case c25 => k_is)
    (case k25 => k_is)
    (case a26 => k_is)
    (case l26 => k_is)
    (case c26 => k_is)
    (case k26 => k_is)
    (case z_abs => k_is)
    (case z_all => k_is)
    (case z_bool => k_is)
    (case z_enumerate => k_is)
    (case z_int => k_is)
    (case z_isinstance => k_is)
    (case z_len => k_is)
    (case z_list => k_is)
    (case z_max => k_is)
    (case z_min => k_is)
    (case z_range => k_is)
    (case z_repr => k_is)
    (case z_set => k_is)
    (case z_sorted => k_is)
    (case z_tuple => k_is)
    (case z_zip => k_is)
    (case z_MOST_MAKERS => k_is)
    (case z_MOST_WIDE => k_is)

